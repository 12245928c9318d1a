import PyProof.Rows.All
import Wide.All
import OpenK.AllK
import Wide.FinOn
import PySem.Challenge.RW_nn0143_01
set_option linter.unusedVariables false
set_option genSizeOf false
set_option bootstrap.genMatcherCode false
set_option backward.match.sparseCases false
set_option tactic.hygienic false
set_option genInjectivity false
set_option maxRecDepth 100000
noncomputable section
namespace Pap
abbrev aaw:=@Nat.le_trans
abbrev aax:=@Nat.lt_of_lt_of_le
abbrev aay:=@Option.some.inj
abbrev aaz:=@Nat.lt_of_le_of_lt
abbrev aaA:=@Nat.lt_trans
abbrev aaB:=@List.length_map
abbrev aaC:=@Nat.lt_succ_self
abbrev aaD:=@List.length_append
abbrev aaE:=@Bool.false_ne_true
abbrev aaF:=@Nat.le_refl
abbrev aaG:=@List.mem_map
abbrev aaH:=@List.mem_cons
abbrev aaI:=@Nat.le_of_lt
abbrev aaJ:=@Nat.ne_of_lt
abbrev aaK:=@List.mem_singleton
abbrev aaL:=@List.map_append
abbrev aaM:=@Nat.le_add_right
abbrev aaN:=@Nat.ne_of_gt
abbrev aaO:=@List.mem_of_getElem?
abbrev aaP:=@Nat.not_lt
abbrev aaQ:=@Nat.add_le_add
abbrev aaR:=@List.getElem?_eq_getElem
abbrev aaS:=@Nat.le_of_eq
abbrev aaT:=@List.mem_append_right
abbrev aaU:=@List.not_mem_nil
abbrev aaV:=@Bool.and_eq_true_iff
abbrev aaW:=@List.append_assoc
abbrev aaX:=@List.all_eq_true
abbrev aaY:=@List.append_nil
abbrev aaZ:=@List.getElem?_eq_some_iff
abbrev aa0:=@Int.natCast_nonneg
abbrev aa1:=@Nat.succ_le_succ
abbrev aa2:=@List.length_cons
abbrev aa3:=@List.mem_append_left
abbrev aa4:=@List.map_cons
abbrev aa5:=@List.map_map
abbrev aa6:=@List.mem_append
abbrev aa7:=@Option.isSome_iff_exists
abbrev aa8:=@List.nodup_cons
abbrev aa9:=@Nat.add_assoc
abbrev aba:=@Nat.le_succ
abbrev abb:=@Nat.add_le_add_right
abbrev abc:=@List.getElem?_map
abbrev abd:=@Int.le_trans
abbrev abe:=@List.length_singleton
abbrev abf:=@List.cons.inj
abbrev abg:=@Nat.add_comm
abbrev abh:=@Array.getElem?_toList
abbrev abi:=@List.mem_map_of_mem
abbrev abj:=@Nat.add_le_add_left
abbrev abk:=@List.mem_filter
abbrev abl:=@Nat.lt_add_of_pos_right
abbrev abm:=@Ne.symm
abbrev abn:=@Nat.le_add_left
abbrev abo:=@List.getElem?_of_mem
abbrev abp:=@Nat.zero_le
abbrev abq:=@List.map_congr_left
abbrev abr:=@Nat.add_lt_add_left
abbrev abt:=@Nat.mul_le_mul_left
abbrev abu:=@List.pairwise_singleton
abbrev abv:=@Nat.succ_lt_succ
abbrev abw:=@List.nodup_append
abbrev abx:=@Nat.le_succ_of_le
abbrev aby:=@List.map_id
abbrev abz:=@List.getElem?_append_left
abbrev abA:=@Int.ofNat_lt
abbrev abB:=@List.mem_filterMap
abbrev abC:=@Nat.succ_ne_zero
abbrev abD:=@List.range'_succ
abbrev abE:=@Nat.zero_add
section
open PySem
theorem tS {α:Type} [LT α] {a b c:α} (h:a < b) (e:b=c):a < c:=e▸h
theorem Rf {α:Type} [LT α] {a b c:α} (e:a=b) (h:b < c):a < c:=e▸h
theorem MZ {a b:Int} (h:a<=b) (n:a≠b):a < b:=Int.lt_iff_le_and_ne.mpr ⟨h,n⟩
theorem Uv (n:Nat):1+n=n+1:=abg 1 n
theorem wZ {a b:Nat} (h:a<=b):(a:Int)<=b:=Int.ofNat_le.mpr h
theorem Qi {a b:Nat} (h:(a:Int)<=b):a<=b:=Int.ofNat_le.mp h
theorem MQ {a b:Nat} (h:a < b):(a:Int) < b:=abA.mpr h
theorem HL {a b:Nat} (h:(a:Int) < b):a < b:=abA.mp h
theorem JK {a b:Nat} (h:a=b):(a:Int)=b:=congrArg Int.ofNat h
theorem qD {a b:Nat} (h:(a:Int)=b):a=b:=Int.ofNat.inj h
theorem zF {a b c d:Nat} (h:c<=d) (n:¬c+(b+1)<=d+a):a<=b:=aaP.mp λx=>n (aaQ h x)
theorem zt {k a:Int} {b:Nat} (h:k<=a) (g:a < k+b):(a - k).toNat < b:=(Int.toNat_lt (Int.sub_nonneg_of_le h)).mpr (Int.sub_left_lt_of_lt_add g)
theorem zu {k a:Int} (h:k<=a):k+((a - k).toNat:Int)=a:=(congrArg (k+·) (Int.toNat_of_nonneg (Int.sub_nonneg_of_le h))).trans ((Int.add_comm _ _).trans (Int.sub_add_cancel a k))
theorem zv {a:Int} (h:1<=a):((a - 1).toNat:Int)+1=a:=(Int.add_comm _ _).trans (zu h)
theorem zr {a:Int} {b:Nat} (h:a<=b):a < 1+b:=Int.lt_of_le_of_lt h (Int.lt_add_of_pos_left _ (by decide))
theorem zw {a:Int} {b c:Nat} (h1:(c:Int)+1=a) (h2:c < b):1<=a/\a<=(b:Int):=h1▸⟨Int.le_add_of_nonneg_left (aa0 c),abA.mpr h2⟩
theorem zy {a b:Nat} {c:Int} (h1:(a:Int)=(b:Int)+1 - c) (h2:c<=(b:Int)):0 < a:=Int.natCast_pos.mp (tS (Int.sub_pos_of_lt (Int.lt_add_one_of_le h2)) h1.symm)
theorem zq {i j n:Nat} (h:i < n) (e:i+j=n):j - 1 < j/\i+1+(j - 1)=n:=
 have p:0 < j:=Nat.pos_of_lt_add_right (tS h e.symm)
 ⟨Nat.sub_lt p Nat.one_pos,(aa9 i 1 (j - 1)).trans ((congrArg (i+·) (Nat.add_sub_cancel' p)).trans e)⟩
theorem zs {a:Int} {b:Nat}:a+((b+1:Nat):Int)=a+1+b:=(congrArg (a+·) (Int.add_comm (b:Int) 1)).trans (Int.add_assoc a 1 b).symm
theorem zg (b c:Nat):(b:Int) < b+1+c:=MQ (b:=b+1+c) (aax (aaC b) (aaM _ _))
theorem zo {a:Int} {b:Nat} (h:¬a<=2+(b:Int)):3+(b:Int)<=a:=abd (Int.le_of_eq (Int.add_right_comm 2 1 b)) (Int.not_le.mp h)
theorem z5 {a:Nat} {b:Int} (h:5+(a:Int)<=b):5<=b:=abd (Int.le_add_of_nonneg_right (aa0 a)) h
theorem Yx (a b:Int):a+b - a=b:=(congrArg (· - a) (Int.add_comm a b)).trans (Int.add_sub_cancel b a)
theorem Y3 (a b c:Int):a - b - c=a - c - b:=(Int.sub_sub a b c).trans ((congrArg (a - ·) (Int.add_comm b c)).trans (Int.sub_sub a c b).symm)
theorem TT {a:Nat} {b:Nat}:((2+a+b:Nat):Int)+1=3+(a:Int)+(b:Int):=JK (a:=2+a+b+1) (b:=3+a+b) (by simp+arith)
theorem Uc {a:Nat} {b:Nat} {c:Nat} (h1:b < c):1<=(a:Int)+1+(b:Int)/\(a:Int)+1+(b:Int)<=((a+c:Nat):Int):=⟨wZ (a:=1) (b:=a+1+b) (aaw (abn 1 _) (aaM _ _)),wZ (a:=a+1+b) (aaw (aaS (Nat.add_right_comm _ 1 _)) (abr h1 _))⟩
theorem Ul {a:Nat} {b:Nat} {c:Nat} {d:Nat} (h1:a < b):1<=3+(a:Int)/\3+(a:Int)<=((2+b+c+d:Nat):Int):=⟨wZ (a:=1) (b:=3+a) (aaw (by decide) (aaM 3 _)),wZ (a:=3+a) (zF h1 (by simp+arith))⟩
theorem TD {a:Nat} {b:Nat} {c:Nat} (h1:b < c):3+(a:Int)+(b:Int)<=((2+a+c:Nat):Int):=wZ (a:=3+a+b) (b:=2+a+c) (zF h1 (by simp+arith))
theorem Sd {a:Nat} {b:Nat} {c:Nat} (h1:c < a):¬3+(a:Int)+(b:Int)=3+(c:Int):=λe=>aaN (aax (abr h1 3) (aaM _ _)) (qD (a:=3+a+b) (b:=3+c) e)
theorem T1 {a:Nat} {b:Nat} {c:Nat} (h1:¬b < c):3+(a:Int)+(b:Int)=((2+a+c:Nat):Int)+1+((b - c:Nat):Int):=JK (a:=3+a+b) (b:=2+a+c+1+(b - c)) ((congrArg (3+a+·) (Nat.add_sub_of_le (aaP.mp h1)).symm).trans (by simp+arith))
theorem Td {a:Nat} {b:Nat} {c:Nat} {d:Nat} (h1:a < b):¬3+(a:Int)=((2+b+c:Nat):Int)+1+((d - c:Nat):Int):=λe=>aaJ (zF h1 (by simp+arith)) (qD (a:=3+a) (b:=2+b+c+1+(d - c)) e)
theorem Tt {a:Nat} {b:Nat} {c:Nat} {d:Nat} (h1:d < b) (h2:a < d+1):3+(a:Int)<=((2+b+c:Nat):Int):=wZ (a:=3+a) (zF (aaQ h1 h2) (by simp+arith))
theorem Sx {a:Nat}:((2+a:Nat):Int)+1=3+(a:Int):=JK (a:=2+a+1) (b:=3+a) (Nat.add_right_comm 2 _ 1)
theorem Ut {a:Nat}:3+(a:Int)=(0:Int)+1+((2+a:Nat):Int):=JK (a:=3+a) (b:=0+1+(2+a)) (aa9 1 2 _)
theorem Sn {a:Nat} {b:Nat} {c:Nat} {d:Nat} (h1:a < c) (h2:b=2+c+d):3+(a:Int)<=(b:Int):=wZ (a:=3+a) (zF (aaQ h1 (aaS h2.symm)) (by simp+arith))
theorem Uw {a:Nat} {b:Nat}:3+(a:Int)+(b:Int)=((2+a+b:Nat):Int)+1:=JK (a:=3+a+b) (b:=2+a+b+1) (by simp+arith)
theorem Nv {a:Nat} (h1:3+(a:Int)=2):False:=absurd (qD (a:=3+a) (b:=2) h1) (aaN (aax (by decide) (aaM 3 _)))
theorem O4 {a:Int} {b:Nat} {c:Nat} {d:Nat} (h1:1<=a) (h2:a<=(d:Int)) (h3:¬a<=2+(b:Int)) (h4:d=2+b+c):(a - 3 - (b:Int)).toNat < c:=Rf (congrArg Int.toNat (Int.sub_sub _ 3 _)) (zt (zo h3) (Int.lt_of_le_of_lt h2 (MQ (b:=3+b+c) (zF (aaS h4) (by simp+arith)))))
theorem Qd {a:Nat} {b:Int} (h1:¬b<=2+(a:Int)):3+(a:Int)+(((b - 3 - (a:Int)).toNat:Nat):Int)=b:=(congrArg (λx:Int=>3+(a:Int)+x.toNat) (Int.sub_sub _ 3 _)).trans (zu (zo h1))
theorem NA {a:Nat}:((4+a:Nat):Int)+1=5+(a:Int):=JK (a:=4+a+1) (b:=5+a) (Nat.add_right_comm 4 _ 1)
theorem Pp {a:Nat} {b:Int} {c:Nat} {d:Nat} (h1:5+(d:Int)=b) (h2:a<=d) (h3:d < a+c):5+(a:Int)<=b/\b < 5+(a:Int)+(c:Int):=h1▸⟨Int.add_le_add_left (wZ h2) 5,MQ (a:=5+d) (b:=5+a+c) (tS (abr h3 5) (aa9 5 _ _).symm)⟩
theorem Qe {a:Nat} {b:Nat} {c:Nat} (h1:(c:Int) - 1=(b:Int)) (h2:a+4*c<=24):a+4*b<=20:=zF (aaQ (abt 4 (aaS (qD (b:=b+1) (Int.sub_eq_iff_eq_add.mp h1)).symm)) h2) (by simp+arith)
theorem Qn {a:Int} {b:Nat} {c:Nat} {d:Nat} (h1:b=c+d) (h2:5+(c:Int)<=a) (h3:a < 5+(c:Int)+(d:Int)):a < 5+(b:Int):=tS h3 (JK (a:=5+c+d) (b:=5+b) ((aa9 5 _ _).trans (congrArg (5+·) h1.symm)))
theorem QK {a:Nat} {b:Nat} {c:Int} (h1:5+(b:Int)<=c) (h2:c < 5+(b:Int)+(a:Int)):1<=a:=Nat.pos_of_lt_add_right (HL (a:=5+b) (b:=5+b+a) (Int.lt_of_le_of_lt h1 h2))
theorem NI {a:Int} {b:Nat} {c:Nat} (h1:a=4+1+(b:Int)) (h2:a<=(c:Int)) (h3:c=4):False:=absurd (aaw (Qi (a:=4+1+b) (abd (Int.le_of_eq h1.symm) h2)) (aaS h3)) (by simp+arith)
theorem Nf {a:Int} {b:Int} {c:Nat} (h1:¬5<=a) (h2:b=a) (h3:(c:Int)+1=b) (h4:4<=c):False:=h1 (abd (wZ (a:=5) (b:=c+1) (aa1 h4)) (Int.le_of_eq (h3.trans h2)))
theorem M9 {a:Nat} (h1:5+(a:Int)<=(4:Int)):False:=absurd (Qi (a:=5+a) (b:=4) h1) (by simp+arith)
theorem N2 {a:Nat} {b:Nat} (h1:b < a):(a:Int) - 1 - (b:Int)=((a - 1 - b:Nat):Int):=((Int.ofNat_sub (Nat.le_sub_one_of_lt h1)).trans (congrArg (· - (b:Int)) (Int.ofNat_sub (aaz (abp _) h1)))).symm
theorem Oi {a:Nat} {b:Nat} (h1:b < a):(a:Int) - 1 - ((b+1:Nat):Int)=((a - 1 - b:Nat):Int) - 1:=(Int.sub_sub _ _ 1).symm.trans (congrArg (· - 1) ((Int.ofNat_sub (Nat.le_sub_one_of_lt h1)).trans (congrArg (· - (b:Int)) (Int.ofNat_sub (aaz (abp _) h1)))).symm)
theorem nn {α:Type} {x:α} (h:none=some x):False:=nomatch h
theorem mo {p0:Prop} {p1:Prop} {p2:Prop} {p3:Prop} {b:Prop} (h:p0/\p1/\p2/\p3) (f:p0->p1->p2->p3->b):b:=h.elim λh0 h=>h.elim λh1 h=>h.elim λh2 h=>f h0 h1 h2 h
theorem w5 {p0:Prop} {p1:Prop} {p2:Prop} {b:Prop} (h:p0/\p1/\p2) (f:p0->p1->p2->b):b:=h.elim λh0 h=>h.elim λh1 h=>f h0 h1 h
theorem Br {p0:Prop} {α0:Sort _} {p2:α0->Prop} {p3:α0->Prop} {α1:Sort _} {p5:α0->α1->Prop} {p6:α0->α1->Prop} {p7:α0->α1->Prop} {b:Prop} (h:p0/\∃a0,p2 a0/\p3 a0/\∃a1,p5 a0 a1/\p6 a0 a1/\p7 a0 a1) (f:p0->∀a0,p2 a0->p3 a0->∀a1,p5 a0 a1->p6 a0 a1->p7 a0 a1->b):b:=h.elim λh0 h=>h.elim λa0 h=>h.elim λh2 h=>h.elim λh3 h=>h.elim λa1 h=>h.elim λh5 h=>h.elim λh6 h=>f h0 a0 h2 h3 a1 h5 h6 h
theorem yL {p0:Prop} {α0:Sort _} {p2:α0->Prop} {p3:α0->Prop} {p4:α0->Prop} {b:Prop} (h:p0/\∃a0,p2 a0/\p3 a0/\p4 a0) (f:p0->∀a0,p2 a0->p3 a0->p4 a0->b):b:=h.elim λh0 h=>h.elim λa0 h=>h.elim λh2 h=>h.elim λh3 h=>f h0 a0 h2 h3 h
theorem ga {p0:Prop} {α0:Sort _} {α1:Sort _} {p3:α0->α1->Prop} {b:Prop} (h:p0/\∃a0,∃a1,p3 a0 a1) (f:p0->∀a0,∀a1,p3 a0 a1->b):b:=h.elim λh0 h=>h.elim λa0 h=>h.elim λa1 h=>f h0 a0 a1 h
theorem qk {p0:Prop} {p1:Prop} {b:Prop} (h:p0/\p1) (f:p0->p1->b):b:=h.elim λh0 h=>f h0 h
theorem XG {p0:Prop} {β1:Sort _} {l1:β1} {r1:β1} {b:Prop} (h:p0/\l1=r1) (f:p0->r1=l1->b):b:=h.elim λh0 h=>f h0 h.symm
theorem jv {α0:Sort _} {p1:α0->Prop} {p2:α0->Prop} {p3:α0->Prop} {p4:α0->Prop} {b:Prop} (h:∃a0,p1 a0/\p2 a0/\p3 a0/\p4 a0) (f:∀a0,p1 a0->p2 a0->p3 a0->p4 a0->b):b:=h.elim λa0 h=>h.elim λh1 h=>h.elim λh2 h=>h.elim λh3 h=>f a0 h1 h2 h3 h
theorem Ar {α0:Sort _} {p1:α0->Prop} {p2:α0->Prop} {α1:Sort _} {p4:α0->α1->Prop} {p5:α0->α1->Prop} {b:Prop} (h:∃a0,p1 a0/\p2 a0/\∃a1,p4 a0 a1/\p5 a0 a1) (f:∀a0,p1 a0->p2 a0->∀a1,p4 a0 a1->p5 a0 a1->b):b:=h.elim λa0 h=>h.elim λh1 h=>h.elim λh2 h=>h.elim λa1 h=>h.elim λh4 h=>f a0 h1 h2 a1 h4 h
theorem jB {α0:Sort _} {p1:α0->Prop} {p2:α0->Prop} {α1:Sort _} {p4:α0->α1->Prop} {b:Prop} (h:∃a0,p1 a0/\p2 a0/\∃a1,p4 a0 a1) (f:∀a0,p1 a0->p2 a0->∀a1,p4 a0 a1->b):b:=h.elim λa0 h=>h.elim λh1 h=>h.elim λh2 h=>h.elim λa1 h=>f a0 h1 h2 a1 h
theorem cU {α0:Sort _} {p1:α0->Prop} {p2:α0->Prop} {p3:α0->Prop} {b:Prop} (h:∃a0,p1 a0/\p2 a0/\p3 a0) (f:∀a0,p1 a0->p2 a0->p3 a0->b):b:=h.elim λa0 h=>h.elim λh1 h=>h.elim λh2 h=>f a0 h1 h2 h
theorem aw {α0:Sort _} {p1:α0->Prop} {p2:α0->Prop} {b:Prop} (h:∃a0,p1 a0/\p2 a0) (f:∀a0,p1 a0->p2 a0->b):b:=h.elim λa0 h=>h.elim λh1 h=>f a0 h1 h
theorem El {α0:Sort _} {α1:Sort _} {p2:α0->α1->Prop} {p3:α0->α1->Prop} {p4:α0->α1->Prop} {p5:α0->α1->Prop} {p6:α0->α1->Prop} {b:Prop} (h:∃a0,∃a1,p2 a0 a1/\p3 a0 a1/\p4 a0 a1/\p5 a0 a1/\p6 a0 a1) (f:∀a0,∀a1,p2 a0 a1->p3 a0 a1->p4 a0 a1->p5 a0 a1->p6 a0 a1->b):b:=h.elim λa0 h=>h.elim λa1 h=>h.elim λh2 h=>h.elim λh3 h=>h.elim λh4 h=>h.elim λh5 h=>f a0 a1 h2 h3 h4 h5 h
theorem sx {α0:Sort _} {α1:Sort _} {p2:α0->α1->Prop} {p3:α0->α1->Prop} {p4:α0->α1->Prop} {p5:α0->α1->Prop} {b:Prop} (h:∃a0,∃a1,p2 a0 a1/\p3 a0 a1/\p4 a0 a1/\p5 a0 a1) (f:∀a0,∀a1,p2 a0 a1->p3 a0 a1->p4 a0 a1->p5 a0 a1->b):b:=h.elim λa0 h=>h.elim λa1 h=>h.elim λh2 h=>h.elim λh3 h=>h.elim λh4 h=>f a0 a1 h2 h3 h4 h
theorem aS {α0:Sort _} {α1:Sort _} {p2:α0->α1->Prop} {p3:α0->α1->Prop} {p4:α0->α1->Prop} {b:Prop} (h:∃a0,∃a1,p2 a0 a1/\p3 a0 a1/\p4 a0 a1) (f:∀a0,∀a1,p2 a0 a1->p3 a0 a1->p4 a0 a1->b):b:=h.elim λa0 h=>h.elim λa1 h=>h.elim λh2 h=>h.elim λh3 h=>f a0 a1 h2 h3 h
theorem c4 {α0:Sort _} {α1:Sort _} {p2:α0->α1->Prop} {p3:α0->α1->Prop} {b:Prop} (h:∃a0,∃a1,p2 a0 a1/\p3 a0 a1) (f:∀a0,∀a1,p2 a0 a1->p3 a0 a1->b):b:=h.elim λa0 h=>h.elim λa1 h=>h.elim λh2 h=>f a0 a1 h2 h
theorem JO {α0:Sort _} {α1:Sort _} {p2:α0->α1->Prop} {β3:Sort _} {l3:α0->α1->β3} {r3:α0->α1->β3} {b:Prop} (h:∃a0,∃a1,p2 a0 a1/\l3 a0 a1=r3 a0 a1) (f:∀a0,∀a1,p2 a0 a1->r3 a0 a1=l3 a0 a1->b):b:=h.elim λa0 h=>h.elim λa1 h=>h.elim λh2 h=>f a0 a1 h2 h.symm
theorem tD {α0:Sort _} {α1:Sort _} {α2:Sort _} {p3:α0->α1->α2->Prop} {p4:α0->α1->α2->Prop} {p5:α0->α1->α2->Prop} {p6:α0->α1->α2->Prop} {p7:α0->α1->α2->Prop} {p8:α0->α1->α2->Prop} {p9:α0->α1->α2->Prop} {QM:α0->α1->α2->Prop} {b:Prop} (h:∃a0,∃a1,∃a2,p3 a0 a1 a2/\p4 a0 a1 a2/\p5 a0 a1 a2/\p6 a0 a1 a2/\p7 a0 a1 a2/\p8 a0 a1 a2/\p9 a0 a1 a2/\QM a0 a1 a2) (f:∀a0,∀a1,∀a2,p3 a0 a1 a2->p4 a0 a1 a2->p5 a0 a1 a2->p6 a0 a1 a2->p7 a0 a1 a2->p8 a0 a1 a2->p9 a0 a1 a2->QM a0 a1 a2->b):b:=h.elim λa0 h=>h.elim λa1 h=>h.elim λa2 h=>h.elim λh3 h=>h.elim λh4 h=>h.elim λh5 h=>h.elim λh6 h=>h.elim λh7 h=>h.elim λh8 h=>h.elim λh9 h=>f a0 a1 a2 h3 h4 h5 h6 h7 h8 h9 h
theorem jn {α0:Sort _} {α1:Sort _} {α2:Sort _} {p3:α0->α1->α2->Prop} {p4:α0->α1->α2->Prop} {p5:α0->α1->α2->Prop} {p6:α0->α1->α2->Prop} {p7:α0->α1->α2->Prop} {p8:α0->α1->α2->Prop} {b:Prop} (h:∃a0,∃a1,∃a2,p3 a0 a1 a2/\p4 a0 a1 a2/\p5 a0 a1 a2/\p6 a0 a1 a2/\p7 a0 a1 a2/\p8 a0 a1 a2) (f:∀a0,∀a1,∀a2,p3 a0 a1 a2->p4 a0 a1 a2->p5 a0 a1 a2->p6 a0 a1 a2->p7 a0 a1 a2->p8 a0 a1 a2->b):b:=h.elim λa0 h=>h.elim λa1 h=>h.elim λa2 h=>h.elim λh3 h=>h.elim λh4 h=>h.elim λh5 h=>h.elim λh6 h=>h.elim λh7 h=>f a0 a1 a2 h3 h4 h5 h6 h7 h
theorem AL {α0:Sort _} {α1:Sort _} {α2:Sort _} {p3:α0->α1->α2->Prop} {p4:α0->α1->α2->Prop} {p5:α0->α1->α2->Prop} {p6:α0->α1->α2->Prop} {p7:α0->α1->α2->Prop} {b:Prop} (h:∃a0,∃a1,∃a2,p3 a0 a1 a2/\p4 a0 a1 a2/\p5 a0 a1 a2/\p6 a0 a1 a2/\p7 a0 a1 a2) (f:∀a0,∀a1,∀a2,p3 a0 a1 a2->p4 a0 a1 a2->p5 a0 a1 a2->p6 a0 a1 a2->p7 a0 a1 a2->b):b:=h.elim λa0 h=>h.elim λa1 h=>h.elim λa2 h=>h.elim λh3 h=>h.elim λh4 h=>h.elim λh5 h=>h.elim λh6 h=>f a0 a1 a2 h3 h4 h5 h6 h
theorem iP {α0:Sort _} {α1:Sort _} {α2:Sort _} {p3:α0->α1->α2->Prop} {p4:α0->α1->α2->Prop} {p5:α0->α1->α2->Prop} {b:Prop} (h:∃a0,∃a1,∃a2,p3 a0 a1 a2/\p4 a0 a1 a2/\p5 a0 a1 a2) (f:∀a0,∀a1,∀a2,p3 a0 a1 a2->p4 a0 a1 a2->p5 a0 a1 a2->b):b:=h.elim λa0 h=>h.elim λa1 h=>h.elim λa2 h=>h.elim λh3 h=>h.elim λh4 h=>f a0 a1 a2 h3 h4 h
theorem Hy {α0:Sort _} {α1:Sort _} {α2:Sort _} {p3:α0->α1->α2->Prop} {p4:α0->α1->α2->Prop} {β5:Sort _} {l5:α0->α1->α2->β5} {r5:α0->α1->α2->β5} {b:Prop} (h:∃a0,∃a1,∃a2,p3 a0 a1 a2/\p4 a0 a1 a2/\l5 a0 a1 a2=r5 a0 a1 a2) (f:∀a0,∀a1,∀a2,p3 a0 a1 a2->p4 a0 a1 a2->r5 a0 a1 a2=l5 a0 a1 a2->b):b:=h.elim λa0 h=>h.elim λa1 h=>h.elim λa2 h=>h.elim λh3 h=>h.elim λh4 h=>f a0 a1 a2 h3 h4 h.symm
theorem tR {α0:Sort _} {α1:Sort _} {α2:Sort _} {p3:α0->α1->α2->Prop} {p4:α0->α1->α2->Prop} {b:Prop} (h:∃a0,∃a1,∃a2,p3 a0 a1 a2/\p4 a0 a1 a2) (f:∀a0,∀a1,∀a2,p3 a0 a1 a2->p4 a0 a1 a2->b):b:=h.elim λa0 h=>h.elim λa1 h=>h.elim λa2 h=>h.elim λh3 h=>f a0 a1 a2 h3 h
theorem uu {α0:Sort _} {α1:Sort _} {α2:Sort _} {α3:Sort _} {p4:α0->α1->α2->α3->Prop} {p5:α0->α1->α2->α3->Prop} {p6:α0->α1->α2->α3->Prop} {b:Prop} (h:∃a0,∃a1,∃a2,∃a3,p4 a0 a1 a2 a3/\p5 a0 a1 a2 a3/\p6 a0 a1 a2 a3) (f:∀a0,∀a1,∀a2,∀a3,p4 a0 a1 a2 a3->p5 a0 a1 a2 a3->p6 a0 a1 a2 a3->b):b:=h.elim λa0 h=>h.elim λa1 h=>h.elim λa2 h=>h.elim λa3 h=>h.elim λh4 h=>h.elim λh5 h=>f a0 a1 a2 a3 h4 h5 h
theorem yg {α0:Sort _} {α1:Sort _} {α2:Sort _} {α3:Sort _} {α4:Sort _} {p5:α0->α1->α2->α3->α4->Prop} {p6:α0->α1->α2->α3->α4->Prop} {p7:α0->α1->α2->α3->α4->Prop} {p8:α0->α1->α2->α3->α4->Prop} {b:Prop} (h:∃a0,∃a1,∃a2,∃a3,∃a4,p5 a0 a1 a2 a3 a4/\p6 a0 a1 a2 a3 a4/\p7 a0 a1 a2 a3 a4/\p8 a0 a1 a2 a3 a4) (f:∀a0,∀a1,∀a2,∀a3,∀a4,p5 a0 a1 a2 a3 a4->p6 a0 a1 a2 a3 a4->p7 a0 a1 a2 a3 a4->p8 a0 a1 a2 a3 a4->b):b:=h.elim λa0 h=>h.elim λa1 h=>h.elim λa2 h=>h.elim λa3 h=>h.elim λa4 h=>h.elim λh5 h=>h.elim λh6 h=>h.elim λh7 h=>f a0 a1 a2 a3 a4 h5 h6 h7 h
theorem hY {α0:Sort _} {α1:Sort _} {α2:Sort _} {α3:Sort _} {α4:Sort _} {α5:Sort _} {p6:α0->α1->α2->α3->α4->α5->Prop} {b:Prop} (h:∃a0,∃a1,∃a2,∃a3,∃a4,∃a5,p6 a0 a1 a2 a3 a4 a5) (f:∀a0,∀a1,∀a2,∀a3,∀a4,∀a5,p6 a0 a1 a2 a3 a4 a5->b):b:=h.elim λa0 h=>h.elim λa1 h=>h.elim λa2 h=>h.elim λa3 h=>h.elim λa4 h=>h.elim λa5 h=>f a0 a1 a2 a3 a4 a5 h
theorem kE {α0:Sort _} {α1:Sort _} {α2:Sort _} {α3:Sort _} {α4:Sort _} {p5:α0->α1->α2->α3->α4->Prop} {b:Prop} (h:∃a0,∃a1,∃a2,∃a3,∃a4,p5 a0 a1 a2 a3 a4) (f:∀a0,∀a1,∀a2,∀a3,∀a4,p5 a0 a1 a2 a3 a4->b):b:=h.elim λa0 h=>h.elim λa1 h=>h.elim λa2 h=>h.elim λa3 h=>h.elim λa4 h=>f a0 a1 a2 a3 a4 h
theorem bF {α0:Sort _} {α1:Sort _} {α2:Sort _} {α3:Sort _} {p4:α0->α1->α2->α3->Prop} {b:Prop} (h:∃a0,∃a1,∃a2,∃a3,p4 a0 a1 a2 a3) (f:∀a0,∀a1,∀a2,∀a3,p4 a0 a1 a2 a3->b):b:=h.elim λa0 h=>h.elim λa1 h=>h.elim λa2 h=>h.elim λa3 h=>f a0 a1 a2 a3 h
theorem u4 {α0:Sort _} {α1:Sort _} {α2:Sort _} {β3:Sort _} {l3:α0->α1->α2->β3} {r3:α0->α1->α2->β3} {p6:α0->α1->α2->Prop} {p7:α0->α1->α2->Prop} {α3:Sort _} {p9:α0->α1->α2->α3->Prop} {QM:α0->α1->α2->α3->Prop} {Xj:α0->α1->α2->α3->Prop} {b:Prop} (h:∃a0,∃a1,∃a2,(l3 a0 a1 a2=r3 a0 a1 a2)/\p6 a0 a1 a2/\p7 a0 a1 a2/\∃a3,p9 a0 a1 a2 a3/\QM a0 a1 a2 a3/\Xj a0 a1 a2 a3) (f:∀a0,∀a1,∀a2,r3 a0 a1 a2=l3 a0 a1 a2->p6 a0 a1 a2->p7 a0 a1 a2->∀a3,p9 a0 a1 a2 a3->QM a0 a1 a2 a3->Xj a0 a1 a2 a3->b):b:=h.elim λa0 h=>h.elim λa1 h=>h.elim λa2 h=>h.elim λh3 h=>h.elim λh6 h=>h.elim λh7 h=>h.elim λa3 h=>h.elim λh9 h=>h.elim λOX h=>f a0 a1 a2 h3.symm h6 h7 a3 h9 OX h
theorem bj {α0:Sort _} {α1:Sort _} {α2:Sort _} {p3:α0->α1->α2->Prop} {b:Prop} (h:∃a0,∃a1,∃a2,p3 a0 a1 a2) (f:∀a0,∀a1,∀a2,p3 a0 a1 a2->b):b:=h.elim λa0 h=>h.elim λa1 h=>h.elim λa2 h=>f a0 a1 a2 h
theorem Hb {α0:Sort _} {α1:Sort _} {β2:Sort _} {l2:α0->α1->β2} {r2:α0->α1->β2} {p5:α0->α1->Prop} {p6:α0->α1->Prop} {p7:α0->α1->Prop} {b:Prop} (h:∃a0,∃a1,(l2 a0 a1=r2 a0 a1)/\p5 a0 a1/\p6 a0 a1/\p7 a0 a1) (f:∀a0,∀a1,r2 a0 a1=l2 a0 a1->p5 a0 a1->p6 a0 a1->p7 a0 a1->b):b:=h.elim λa0 h=>h.elim λa1 h=>h.elim λh2 h=>h.elim λh5 h=>h.elim λh6 h=>f a0 a1 h2.symm h5 h6 h
theorem cf {α0:Sort _} {α1:Sort _} {β2:Sort _} {l2:α0->α1->β2} {r2:α0->α1->β2} {p5:α0->α1->Prop} {p6:α0->α1->Prop} {b:Prop} (h:∃a0,∃a1,(l2 a0 a1=r2 a0 a1)/\p5 a0 a1/\p6 a0 a1) (f:∀a0,∀a1,r2 a0 a1=l2 a0 a1->p5 a0 a1->p6 a0 a1->b):b:=h.elim λa0 h=>h.elim λa1 h=>h.elim λh2 h=>h.elim λh5 h=>f a0 a1 h2.symm h5 h
theorem JH {α0:Sort _} {α1:Sort _} {β2:Sort _} {l2:α0->α1->β2} {r2:α0->α1->β2} {p5:α0->α1->Prop} {b:Prop} (h:∃a0,∃a1,(l2 a0 a1=r2 a0 a1)/\p5 a0 a1) (f:∀a0,∀a1,r2 a0 a1=l2 a0 a1->p5 a0 a1->b):b:=h.elim λa0 h=>h.elim λa1 h=>h.elim λh2 h=>f a0 a1 h2.symm h
theorem aq {α0:Sort _} {α1:Sort _} {p2:α0->α1->Prop} {b:Prop} (h:∃a0,∃a1,p2 a0 a1) (f:∀a0,∀a1,p2 a0 a1->b):b:=h.elim λa0 h=>h.elim λa1 h=>f a0 a1 h
theorem P1 {α0:Sort _} {α1:Sort _} {β2:Sort _} {l2:α0->α1->β2} {r2:α0->α1->β2} {b:Prop} (h:∃a0,∃a1,l2 a0 a1=r2 a0 a1) (f:∀a0,∀a1,r2 a0 a1=l2 a0 a1->b):b:=h.elim λa0 h=>h.elim λa1 h=>f a0 a1 h.symm
theorem E7 {α0:Sort _} {β1:Sort _} {l1:α0->β1} {r1:α0->β1} {p4:α0->Prop} {p5:α0->Prop} {b:Prop} (h:∃a0,(l1 a0=r1 a0)/\p4 a0/\p5 a0) (f:∀a0,r1 a0=l1 a0->p4 a0->p5 a0->b):b:=h.elim λa0 h=>h.elim λh1 h=>h.elim λh4 h=>f a0 h1.symm h4 h
theorem bU {α0:Sort _} {β1:Sort _} {l1:α0->β1} {r1:α0->β1} {p4:α0->Prop} {b:Prop} (h:∃a0,(l1 a0=r1 a0)/\p4 a0) (f:∀a0,r1 a0=l1 a0->p4 a0->b):b:=h.elim λa0 h=>h.elim λh1 h=>f a0 h1.symm h
theorem uh {α0:Sort _} {p1:α0->Prop} {b:Prop} (h:∃a0,p1 a0) (f:∀a0,p1 a0->b):b:=h.elim λa0 h=>f a0 h
theorem wV {α0:Sort _} {β1:Sort _} {l1:α0->β1} {r1:α0->β1} {b:Prop} (h:∃a0,l1 a0=r1 a0) (f:∀a0,r1 a0=l1 a0->b):b:=h.elim λa0 h=>f a0 h.symm
theorem NS {β0:Sort _} {l0:β0} {r0:β0} {p3:Prop} {p4:Prop} {b:Prop} (h:(l0=r0)/\p3/\p4) (f:r0=l0->p3->p4->b):b:=h.elim λh0 h=>h.elim λh3 h=>f h0.symm h3 h
theorem Kr {β0:Sort _} {l0:β0} {r0:β0} {α0:Sort _} {β4:Sort _} {l4:α0->β4} {r4:α0->β4} {p7:α0->Prop} {p8:α0->Prop} {b:Prop} (h:(l0=r0)/\∃a0,(l4 a0=r4 a0)/\p7 a0/\p8 a0) (f:r0=l0->∀a0,r4 a0=l4 a0->p7 a0->p8 a0->b):b:=h.elim λh0 h=>h.elim λa0 h=>h.elim λh4 h=>h.elim λh7 h=>f h0.symm a0 h4.symm h7 h
theorem bH {α0:Sort _} {α1:Sort _} {p:α0->α1->Prop} (a0:α0) (a1:α1) (h:p a0 a1):∃a0,∃a1,p a0 a1:=⟨a0,a1,h⟩
theorem cZ {α0:Sort _} {α1:Sort _} {α2:Sort _} {p:α0->α1->α2->Prop} (a0:α0) (a1:α1) (a2:α2) (h:p a0 a1 a2):∃a0,∃a1,∃a2,p a0 a1 a2:=⟨a0,a1,a2,h⟩
theorem jW {α0:Sort _} {α1:Sort _} {α2:Sort _} {α3:Sort _} {p:α0->α1->α2->α3->Prop} (a0:α0) (a1:α1) (a2:α2) (a3:α3) (h:p a0 a1 a2 a3):∃a0,∃a1,∃a2,∃a3,p a0 a1 a2 a3:=⟨a0,a1,a2,a3,h⟩
theorem pP {α0:Sort _} {α1:Sort _} {α2:Sort _} {α3:Sort _} {α4:Sort _} {p:α0->α1->α2->α3->α4->Prop} (a0:α0) (a1:α1) (a2:α2) (a3:α3) (a4:α4) (h:p a0 a1 a2 a3 a4):∃a0,∃a1,∃a2,∃a3,∃a4,p a0 a1 a2 a3 a4:=⟨a0,a1,a2,a3,a4,h⟩
theorem AH {α0:Sort _} {α1:Sort _} {α2:Sort _} {α3:Sort _} {α4:Sort _} {α5:Sort _} {p:α0->α1->α2->α3->α4->α5->Prop} (a0:α0) (a1:α1) (a2:α2) (a3:α3) (a4:α4) (a5:α5) (h:p a0 a1 a2 a3 a4 a5):∃a0,∃a1,∃a2,∃a3,∃a4,∃a5,p a0 a1 a2 a3 a4 a5:=⟨a0,a1,a2,a3,a4,a5,h⟩
theorem vL {α0:Sort _} {α1:Sort _} {α2:Sort _} {α3:Sort _} {α4:Sort _} {α5:Sort _} {α6:Sort _} {p:α0->α1->α2->α3->α4->α5->α6->Prop} (a0:α0) (a1:α1) (a2:α2) (a3:α3) (a4:α4) (a5:α5) (a6:α6) (h:p a0 a1 a2 a3 a4 a5 a6):∃a0,∃a1,∃a2,∃a3,∃a4,∃a5,∃a6,p a0 a1 a2 a3 a4 a5 a6:=⟨a0,a1,a2,a3,a4,a5,a6,h⟩
set_option genInjectivity true in
inductive AV where
 | unset | none
 | bool (b:Bool)
 | int (i:Int)
 | str (s:String)
 | bytes (b:List UInt8)
 | tup (xs:List AV)
 | ref (a:Nat)
inductive AO where
 | no (xs:List AV)
 | list (xs:List AV)
 | dict (es:List (AV × AV))
 | inst (c:String) (fs:List (String × AV))
structure HP where
 n:Nat
 g:Nat->AO
 t:Nat->Nat
noncomputable def HP.set (H:HP) (a:Nat) (o:AO):HP:=⟨H.n,λb=>bif Nat.beq b a then o else H.g b,λb=>bif Nat.beq b a then H.t b+1 else H.t b⟩
noncomputable def HP.push (H:HP) (o:AO):HP:=⟨H.n+1,λb=>bif Nat.beq b H.n then o else H.g b,H.t⟩
noncomputable abbrev Loc:=String->AV
noncomputable def Loc.upd (loc:Loc) (x:String) (v:AV):Loc:=λy=>bif y==x then v else loc y
noncomputable def Loc.new:Loc:=λzz=>.unset
inductive IK where
 | plain | aE | rev
inductive Tg where
 | nm (x:String)
 | tup (xs:List String)
inductive xx where
 | add | sub | mul | fdiv | mod
inductive lU where
 | eq | ne | lt | le | gt | isIn | cL
inductive Fl where
 | next | brk | cont
 | ret (v:AV)
mutual
noncomputable def i8:AV->AV->Bool
 | .unset,b=>match b with | .unset=>true | _=>false
 | .none,b=>match b with | .none=>true | _=>false
 | .bool i,b=>match b with | .bool j=>i==j | _=>false
 | .int i,b=>match b with | .int j=>decide (i=j) | _=>false
 | .str i,b=>match b with | .str j=>decide (i=j) | _=>false
 | .bytes i,b=>match b with | .bytes j=>decide (i=j) | _=>false
 | .tup xs,b=>match b with | .tup ys=>Hu xs ys | _=>false
 | .ref i,b=>match b with | .ref j=>Nat.beq i j | _=>false
noncomputable def Hu:List AV->List AV->Bool
 | [],b=>match b with | []=>true | _::_=>false
 | x::xs,b=>match b with | y::ys=>i8 x y&&Hu xs ys | []=>false
end
mutual
noncomputable def AV.plain:AV->Nat->Bool
 | .none,_ | .int _,_ | .str _,_ | .bytes _,_=>true
 | .tup xs,n=>match n with
  | n+1=>AV.eu xs n
  | 0=>false
 | .unset,_ | .bool _,_ | .ref _,_=>false
noncomputable def AV.eu:List AV->Nat->Bool
 | [],_=>true
 | v::r,n=>v.plain n&&AV.eu r n
end
noncomputable def eG:Nat:=60
noncomputable def lim:Nat:=1000000
noncomputable def getD (k:AV):List (AV × AV)->Option AV
 | []=>.none
 | e::r=>bif i8 e.1 k then some e.2 else getD k r
noncomputable def bS (k v:AV):List (AV × AV)->List (AV × AV)
 | []=>[(k,v)]
 | e::r=>bif i8 e.1 k then (e.1,v)::r else e::bS k v r
noncomputable def wB (k:AV):List (AV × AV)->List (AV × AV)
 | []=>[]
 | e::r=>bif i8 e.1 k then r else e::wB k r
noncomputable def tp (n:String):List (String × AV)->Option AV
 | []=>.none
 | (m,v)::r=>bif m==n then some v else tp n r
noncomputable def u5 (n:String) (v:AV):List (String × AV)->List (String × AV)
 | []=>[(n,v)]
 | (m,w)::r=>bif m==n then (m,v)::r else (m,w)::u5 n v r
noncomputable def AV.isNone:AV->Bool
 | .none=>true
 | _=>false
noncomputable def AV.qd:AV->Bool
 | .int _=>true
 | _=>false
noncomputable def AV.oP:AV->Bool
 | .str _=>true
 | _=>false
noncomputable def kk:AV->Nat
 | .str _=>1
 | .int _=>2
 | .tup xs=>bif xs.all AV.qd then 3 else 0
 | _=>0
noncomputable def bB (k:AV) (es:List (AV × AV)):Prop:=kk k≠0/\∀e∈es,kk e.1=kk k
noncomputable def td (ks:List AV):Prop:=∀a∈ks,kk a≠0/\∀b∈ks,kk b=kk a
noncomputable abbrev KV:=AV->HP->Prop
noncomputable abbrev KL:=List AV->HP->Prop
noncomputable abbrev KB:=Bool->HP->Prop
noncomputable abbrev KS:=Fl->Loc->HP->Prop
noncomputable abbrev PX:=Loc->HP->KV->Prop
noncomputable abbrev QZ:=Loc->HP->KL->Prop
noncomputable abbrev PC:=Loc->HP->KB->Prop
noncomputable abbrev PS:=Loc->HP->KS->Prop
structure ob (o:AO) (F:AO->Prop):Prop where mk::
 run:F o
noncomputable def qg (b:Bool) (F:Bool->Prop):Prop:=match b with
 | true=>F true
 | false=>F false
noncomputable def opt {α:Type} (o:Option α) (F:α->Prop):Prop:=match o with
 | some v=>F v
 | .none=>False
noncomputable def gd (b:Bool) (P:Prop):Prop:=match b with
 | true=>P
 | false=>False
structure nw (o:AO) (H:HP) (Q:KV):Prop where mk::
 run:Q (.ref H.n) (H.push o)
structure upd (a:Nat) (o:AO) (H:HP) (F:HP->Prop):Prop where mk::
 run:F (H.set a o)
noncomputable def jE (v:AV) (F:Int->Prop):Prop:=match v with
 | .int i=>F i
 | _=>False
noncomputable def SE (v:AV) (F:String->Prop):Prop:=match v with
 | .str i=>F i
 | _=>False
noncomputable def Ss (v:AV) (F:List AV->Prop):Prop:=match v with
 | .tup i=>F i
 | _=>False
noncomputable def uT (v:AV) (F:Nat->Prop):Prop:=match v with
 | .ref i=>F i
 | _=>False
noncomputable def Av (o:AO) (F:List AV->Prop):Prop:=match o with
 | .list xs=>F xs
 | _=>False
noncomputable def UY (o:AO) (F:List (AV × AV)->Prop):Prop:=match o with
 | .dict xs=>F xs
 | _=>False
noncomputable def SW (o:AO) (F:String->List (String × AV)->Prop):Prop:=match o with
 | .inst c xs=>F c xs
 | _=>False
noncomputable def a1 (vs:List AV) (F:AV->Prop):Prop:=match vs with
 | v::r=>(match r with
  | []=>F v
  | _::_=>False)
 | []=>False
noncomputable def a2 (vs:List AV) (F:AV->AV->Prop):Prop:=match vs with
 | v::r=>a1 r (F v)
 | []=>False
noncomputable def qF:Int->Bool
 | .ofNat _=>true
 | .negSucc _=>false
noncomputable def OO:Int->Bool
 | .ofNat n=>Nat.ble n lim
 | .negSucc _=>false
noncomputable def Lz (vs:List AV) (P:Prop):Prop:=gd (Nat.ble vs.length lim) P
noncomputable def Da (v:AV) (H:HP) (Q:KV):Prop:=match v with
 | .unset=>False
 | .none=>Q .none H
 | .bool b=>Q (.bool b) H
 | .int i=>Q (.int i) H
 | .str s=>Q (.str s) H
 | .bytes b=>Q (.bytes b) H
 | .tup xs=>Q (.tup xs) H
 | .ref a=>Q (.ref a) H
noncomputable def kB (Q:KB) (H:HP) (t:Bool):Prop:=Q t H
noncomputable def Tx (H:HP) (Q:KB) (o:AO):Prop:=Av o λxs=>qg (!xs.isEmpty) (kB Q H)
noncomputable def cP (v:AV) (H:HP) (Q:KB):Prop:=match v with
 | .none=>Q false H
 | .bool b=>qg b (kB Q H)
 | .ref a=>ob (H.g a) (Tx H Q)
 | _=>False
noncomputable def SC (xs:List AV) (H:HP) (Q:KV) (o:AO):Prop:=Av o λys=>xs.length+ys.length<=lim/\nw (.list (xs++ys)) H Q
noncomputable def Vi (b:AV) (H:HP) (Q:KV) (o:AO):Prop:=Av o λxs=>uT b λy=>ob (H.g y) (SC xs H Q)
noncomputable def R6 (a b:AV) (H:HP) (Q:KV):Prop:=match a with
 | .int i=>jE b λj=>Q (.int (i+j)) H
 | .tup xs=>Ss b λys=>xs.length+ys.length<=lim/\Q (.tup (xs++ys)) H
 | .ref x=>ob (H.g x) (Vi b H Q)
 | _=>False
noncomputable def big (i:Int):Prop:= -1000000000 < i/\i < 1000000000
noncomputable def NB (o:xx) (a b:AV) (H:HP) (Q:KV):Prop:=match o with
 | .add=>R6 a b H Q
 | .sub=>jE a λi=>jE b λj=>Q (.int (i - j)) H
 | .mul=>jE a λi=>jE b λj=>(big j\/big i)/\Q (.int (i*j)) H
 | .fdiv=>jE a λi=>jE b λj=>(0 < j/\j < 1000000)/\Q (.int (i.fdiv j)) H
 | .mod=>jE a λi=>jE b λj=>0 < j/\Q (.int (i.fmod j)) H
noncomputable def eq4 (xs ys:List AV) (Q:Bool->Prop):Prop:=((xs=ys/\AV.eu xs eG=true)/\Q true)\/(xs.length≠ys.length/\Q false)
noncomputable def eq3 (xs:List AV) (Q:Bool->Prop) (o:AO):Prop:=Av o λys=>eq4 xs ys Q
noncomputable def eq1 (b:AV) (H:HP) (Q:Bool->Prop) (o:AO):Prop:=Av o λxs=>uT b λy=>ob (H.g y) (eq3 xs Q)
noncomputable def MN (a b:AV) (H:HP) (Q:Bool->Prop):Prop:=match a with
 | .int i=>jE b λj=>qg (decide (i=j)) Q
 | .str s=>SE b λt=>qg (decide (s=t)) Q
 | .tup xs=>Ss b λys=>(xs=ys/\AV.eu xs eG=true)/\Q true
 | .ref x=>ob (H.g x) (eq1 b H Q)
 | _=>False
noncomputable def in1 (k:AV) (Q:Bool->Prop) (o:AO):Prop:=UY o λes=>bB k es/\qg (getD k es).isSome Q
noncomputable def TC (k d:AV) (H:HP) (Q:Bool->Prop):Prop:=match d with
 | .ref a=>ob (H.g a) (in1 k Q)
 | .tup xs=>gd (k.oP&&xs.all AV.oP) (qg (xs.any (i8 k)) Q)
 | _=>False
noncomputable def kN (Q:Bool->Prop) (t:Bool):Prop:=Q (!t)
noncomputable def LV (o:lU) (a b:AV) (H:HP) (Q:Bool->Prop):Prop:=match o with
 | .eq=>MN a b H Q
 | .ne=>MN a b H (kN Q)
 | .isIn=>TC a b H Q
 | .cL=>TC a b H (kN Q)
 | .lt=>jE a λi=>jE b λj=>qg (decide (i < j)) Q
 | .le=>jE a λi=>jE b λj=>qg (decide (i<=j)) Q
 | .gt=>jE a λi=>jE b λj=>qg (decide (j < i)) Q
noncomputable def SV (n:String) (Q:AV->Prop) (o:AO):Prop:=SW o λzz fs=>opt (tp n fs) Q
noncomputable def Qx (v:AV) (n:String) (H:HP) (Q:AV->Prop):Prop:=uT v λa=>ob (H.g a) (SV n Q)
noncomputable def U7:Int->Bool
 | .ofNat n=>Nat.blt n 1000000
 | .negSucc _=>false
noncomputable def GN (i:AV) (Q:AV->Prop) (o:AO):Prop:=match o with
 | .list xs=>jE i λk=>gd (qF k) (opt xs[k.toNat]? Q)
 | .dict es=>bB i es/\opt (getD i es) Q
 | _=>False
noncomputable def Qs (v i:AV) (H:HP) (Q:AV->Prop):Prop:=match v with
 | .tup xs=>jE i λk=>gd (U7 k) (opt xs[k.toNat]? Q)
 | .ref a=>ob (H.g a) (GN i Q)
 | _=>False
noncomputable def OW (k:Int) (H:HP) (Q:KV) (o:AO):Prop:=match o with
 | .list xs=>gd (qF k) (nw (.list (xs.take k.toNat)) H Q)
 | .no xs=>gd (qF k) (nw (.list (xs.take k.toNat)) H Q)
 | _=>False
noncomputable def Qt (v n:AV) (H:HP) (Q:KV):Prop:=uT v λa=>jE n λk=>ob (H.g a) (OW k H Q)
noncomputable def OQ (k:Int) (H:HP) (Q:KV) (o:AO):Prop:=Av o λxs=>gd (qF k) (nw (.list (xs.drop k.toNat)) H Q)
noncomputable def No (v n:AV) (H:HP) (Q:KV):Prop:=uT v λa=>jE n λk=>ob (H.g a) (OQ k H Q)
noncomputable def xf (c d:String):Bool:=c==d||(c=="Shelf"&&d=="Lookup")||(c=="TreeFault"&&d=="PaperError")
noncomputable def OE (c:String) (Q:Bool->Prop) (o:AO):Prop:=match o with
 | .list _=>Q (c=="list")
 | .dict _=>Q (c=="dict")
 | .inst d _=>Q (xf d c)
 | .no _=>False
noncomputable def Fz (v:AV) (c:String) (H:HP) (Q:Bool->Prop):Prop:=match v with
 | .none | .str _ | .bytes _ | .tup _=>Q false
 | .bool _=>Q (c=="bool"||c=="int")
 | .int _=>Q (c=="int")
 | .ref a=>ob (H.g a) (OE c Q)
 | .unset=>False
noncomputable def qc (a b:AV):Bool:=match a with
 | .int i=>(match b with | .int j=>decide (i < j) | _=>false)
 | .str s=>(match b with | .str t=>decide (s.toList.map Char.toNat < t.toList.map Char.toNat) | _=>false)
 | _=>false
noncomputable def w9 (x:AV):List AV->List AV
 | []=>[x]
 | y::r=>bif qc y x then y::w9 x r else x::y::r
noncomputable def bt:List AV->List AV
 | []=>[]
 | x::r=>w9 x (bt r)
noncomputable def we (xs:List AV) (H:HP) (Q:KV):Prop:=(xs.all AV.qd=true\/xs.all AV.oP=true)/\xs.length < 64/\nw (.list (bt xs)) H Q
noncomputable def Mu (v:AV):Option (AV × AV):=match v with
 | .tup xs=>(match xs with
  | [k,u]=>some (k,u)
  | _=>.none)
 | _=>.none
noncomputable def dH:List AV->Option (List (AV × AV))
 | []=>some []
 | v::r=>(Mu v).bind λp=>(dH r).map (p::·)
noncomputable def cT (ps:List (AV × AV)):List (AV × AV):=ps.foldl (λes p=>bS p.1 p.2 es) []
noncomputable def aN (a b:Int):List AV:=(List.range (b - a).toNat).map λ(i:Nat)=>AV.int (a+(i:Int))
noncomputable abbrev PP:=AV->HP->KV->Prop
noncomputable def Si (H:HP) (Q:KV) (o:AO):Prop:=match o with
 | .list xs=>Q (.int xs.length) H
 | .dict es=>Q (.int es.length) H
 | _=>False
noncomputable def P2:PP:=λv H Q=>match v with
 | .tup xs=>xs.length<=lim/\Q (.int xs.length) H
 | .ref a=>ob (H.g a) (Si H Q)
 | _=>False
noncomputable def Nm:PP:=λv H Q=>jE v λi=>Q (.int i.natAbs) H
noncomputable def IN (H:HP) (Q:KV) (o:AO):Prop:=match o with
 | .list xs=>we xs H Q
 | .dict es=>we (es.map (·.1)) H Q
 | _=>False
noncomputable def jQ:PP:=λv H Q=>uT v λa=>ob (H.g a) (IN H Q)
noncomputable def L5 (H:HP) (Q:KV) (o:AO):Prop:=Av o λxs=>Q (.tup xs) H
noncomputable def EA:PP:=λv H Q=>uT v λa=>ob (H.g a) (L5 H Q)
noncomputable def PT (H:HP) (Q:KV) (o:AO):Prop:=Av o λxs=>nw (.list xs) H Q
noncomputable def Jl:PP:=λv H Q=>uT v λa=>ob (H.g a) (PT H Q)
noncomputable def QV (H:HP) (Q:KV) (o:AO):Prop:=match o with
 | .list xs=>opt (dH xs) λps=>td (ps.map (·.1))/\nw (.dict (cT ps)) H Q
 | .dict es=>(∀e∈es,kk e.1=1)/\nw (.dict es) H Q
 | _=>False
noncomputable def vU:PP:=λv H Q=>uT v λa=>ob (H.g a) (QV H Q)
noncomputable def Ez:PP:=λv H Q=>match v with
 | .bytes b=>Q (.bytes b) H
 | _=>False
noncomputable def Pe (u v:AV) (H:HP) (Q:KV):Prop:=jE u λi=>jE v λj=>Q (.int (if j < i then j else i)) H
noncomputable def Om (u v:AV) (H:HP) (Q:KV):Prop:=jE u λi=>jE v λj=>Q (.int (if j > i then j else i)) H
noncomputable def xH (u v:AV) (H:HP) (Q:KV):Prop:=jE u λa=>jE v λb=>(0<=a/\a<=b/\b<=lim)/\nw (.list (aN a b)) H Q
noncomputable def QC:List (String × PP):=[("len",P2),("abs",Nm),("sorted",jQ),("tuple",EA),("list",Jl),("dict",vU),("bytes",Ez)]
noncomputable def Lk:List (String × (AV->PP)):=[("min",Pe),("max",Om),("listrange",xH)]
noncomputable abbrev aj:=String->List AV->HP->KV->Prop
noncomputable def JC (Γ:aj) (p:String) (vs:List AV) (H:HP) (Q:KV):Prop:=match QC.lookup p with
 | some f=>a1 vs λv=>f v H Q
 | .none=>(match Lk.lookup p with
  | some f=>a2 vs λu v=>f u v H Q
  | .none=>Γ p vs H Q)
noncomputable def aa:List ((String × String) × String):=[
 (("Reference","pair"),"Reference.pair"),
 (("Shelf","fetch"),"Lookup.fetch"),(("Shelf","get"),"Lookup.get"),
 (("Shelf","put"),"Shelf.put"),(("Shelf","add"),"Shelf.add"),(("Shelf","numbers"),"Shelf.numbers"),(("Shelf","root"),"Shelf.root"),(("Shelf","told"),"Shelf.told"),
 (("Collector","reserve"),"Collector.reserve"),(("Collector","take_needed"),"Collector.take_needed"),(("Collector","lay"),"Collector.lay")]
noncomputable def FX:List (String × String):=[("Name","Name.__init__"),("Stream","Stream.__init__"),("Reference","Reference.__init__"),("Shelf","Lookup.__init__"),
 ("Page","Page.__init__"),("Spot","Spot.__init__"),("Collector","Collector.__init__")]
noncomputable def Ue (a:Nat) (xs:List AV) (H:HP) (Q:KV) (o:AO):Prop:=Av o λys=>xs.length+ys.length<=lim/\upd a (.list (xs++ys)) H (Q .none)
noncomputable def Uu (a:Nat) (xs:List AV) (H:HP) (Q:KV) (o:AO):Prop:=Av o λys=>xs.length+ys.length<=lim/\upd a (.list (xs++ys.reverse)) H (Q .none)
noncomputable def Zj (a:Nat) (m:String) (vs:List AV) (H:HP) (Q:KV) (o:AO):Prop:=Av o λxs=>match m with
 | "append"=>a1 vs λv=>xs.length < lim/\upd a (.list (xs++[v])) H (Q .none)
 | "extend"=>a1 vs λv=>uT v λb=>a≠b/\ob (H.g b) (Ue a xs H Q)
 | "pop"=>(match vs with
  | []=>opt xs.getLast? λv=>upd a (.list xs.dropLast) H (Q v)
  | _::_=>False)
 | _=>False
noncomputable def CP (o:Option AV) (d:AV) (F:AV->Prop):Prop:=match o with
 | some v=>F v
 | .none=>F d
noncomputable def kU (Q:KV) (H:HP) (u:AV):Prop:=Q u H
noncomputable def Zc (a:Nat) (m:String) (vs:List AV) (H:HP) (Q:KV) (o:AO):Prop:=UY o λes=>match m with
 | "get"=>(match vs with
  | k::r=>bB k es/\(match r with
   | []=>CP (getD k es) .none (kU Q H)
   | d::r=>(match r with
    | []=>CP (getD k es) d (kU Q H)
    | _::_=>False))
  | []=>False)
 | "pop"=>a1 vs λk=>SE k λs=>bB (.str s) es/\opt (getD (.str s) es) λv=>upd a (.dict (wB (.str s) es)) H (Q v)
 | _=>False
noncomputable def Gx (a:Nat) (m:String) (Q:KV) (vs:List AV) (H:HP):Prop:=ob (H.g a) (Zj a m vs H Q)
noncomputable def Kk (a:Nat) (m:String) (Q:KV) (vs:List AV) (H:HP):Prop:=ob (H.g a) (Zc a m vs H Q)
noncomputable def VT (Γ:aj) (a:Nat) (q:String) (Q:KV) (vs:List AV) (H:HP):Prop:=Γ q (.ref a::vs) H Q
noncomputable def Le (m:String) (P:Prop):Prop:=match m with
 | "append"=>P
 | "extend"=>P
 | "pop"=>P
 | _=>False
noncomputable def Lj (m:String) (P:Prop):Prop:=match m with
 | "get"=>P
 | "pop"=>P
 | _=>False
noncomputable def PV (Γ:aj) (as:QZ) (m:String) (loc:Loc) (Q:KV) (H:HP) (a:Nat) (o:AO):Prop:=match o with
 | .list _=>Le m (as loc H (Gx a m Q))
 | .dict _=>Lj m (as loc H (Kk a m Q))
 | .inst c fs=>(match tp m fs with
  | some _=>False
  | .none=>opt (aa.lookup (c,m)) λq=>as loc H (VT Γ a q Q))
 | .no _=>False
noncomputable def PH (Γ:aj) (as:QZ) (m:String) (loc:Loc) (Q:KV) (v:AV) (H:HP):Prop:=uT v λa=>ob (H.g a) (PV Γ as m loc Q H a)
noncomputable def Y4 (a b:Nat) (H:HP) (Q:KV) (o:AO):Prop:=Av o λxs=>a≠b/\ob (H.g b) (Uu a xs H Q)
noncomputable def NW (a:Nat) (Q:KV) (u:AV) (H:HP):Prop:=uT u λb=>ob (H.g a) (Y4 a b H Q)
noncomputable def Zn (r:PX) (loc:Loc) (Q:KV) (H:HP) (a:Nat) (o:AO):Prop:=Av o λzz=>r loc H (NW a Q)
noncomputable def Sf (r:PX) (loc:Loc) (Q:KV) (v:AV) (H:HP):Prop:=uT v λa=>ob (H.g a) (Zn r loc Q H a)
noncomputable def Xq (a:Nat) (Q:KV) (u:AV) (H:HP):Prop:=u= .none/\Q (.ref a) H
noncomputable def tV (Γ:aj) (c:String) (vs:List AV) (H:HP) (Q:KV):Prop:=opt (FX.lookup c) λq=>Γ q (.ref H.n::vs) (H.push (.inst c [])) (Xq H.n Q)
noncomputable def Je:List (String × AV):=[("MOST_HOPS",.int 30),("INHERITED",.tup [.str "Resources",.str "MediaBox",.str "CropBox",.str "Rotate"]),("PLACES_OF_FILES",.tup [.str "Size",.str "Prev",.str "XRefStm"])]
inductive Src where
 | tup (xs:List AV) | obj (a:Nat) | rev (a:Nat) | Gs (n:Int)
noncomputable def eX:AO->Option (List AV)
 | .list xs=>some xs
 | .dict es=>bif es.all (λe=>kk e.1==1) then some (es.map (·.1)) else .none
 | _=>.none
noncomputable def mC:AO->Option (List AV)
 | .list xs=>some xs.reverse
 | _=>.none
noncomputable def Src.vals:Src->HP->Option (List AV)
 | .tup xs,_=>some xs
 | .obj a,H=>eX (H.g a)
 | .rev a,H=>mC (H.g a)
 | .Gs n,_=>some (aN 0 n)
noncomputable def jk (n:Nat):AO->Nat
 | .dict _=>n+1
 | _=>0
noncomputable def Src.gW:Src->HP->Nat
 | .obj a,H=>jk (H.t a) (H.g a)
 | _,_=>0
noncomputable def ck (z:Src) (all:List AV) (n:Nat) (H:HP):Prop:=z.vals H=some all/\z.gW H=n
noncomputable def Mj (ik:IK) (vs:List AV) (F:Src->Prop):Prop:=match ik with
 | .plain=>a1 vs λv=>(match v with
  | .tup xs=>F (.tup xs)
  | .ref a=>F (.obj a)
  | _=>False)
 | .rev=>a1 vs λv=>uT v λa=>F (.rev a)
 | .aE=>a1 vs λv=>jE v λn=>gd (OO n) (F (.Gs n))
noncomputable def d8:List String->List AV->Loc->Option Loc
 | [],vs,loc=>(match vs with
  | []=>some loc
  | _::_=>.none)
 | x::xs,vs,loc=>(match vs with
  | v::vs=>d8 xs vs (loc.upd x v)
  | []=>.none)
noncomputable def gj (tg:Tg) (v:AV) (loc:Loc):Option Loc:=match tg with
 | .nm x=>some (loc.upd x v)
 | .tup xs=>(match v with
   | .tup vs=>d8 xs vs loc
   | _=>.none)
noncomputable abbrev PI:=HP->List AV->KL->Prop
noncomputable def Zm (src:HP->Prop) (r:PI) (acc:List AV) (Q:KL) (x:AV) (H:HP):Prop:=src H/\acc.length < lim/\r H (acc++[x]) Q
noncomputable def YW (src:HP->Prop) (r:PI) (acc:List AV) (Q:KL) (H:HP):Prop:=src H/\r H acc Q
noncomputable def Zu (elt:PX) (C:KV) (N:HP->Prop) (loc:Loc) (b:Bool) (H:HP):Prop:=match b with
 | true=>elt loc H C
 | false=>N H
noncomputable def Xf (elt:PX) (cs:PC) (C:KV) (N:HP->Prop) (H:HP) (loc:Loc):Prop:=cs loc H (Zu elt C N loc)
noncomputable def iZ (elt:PX) (cs:PC) (tg:Tg) (src:HP->Prop) (loc:Loc):List AV->PI
 | [],H,acc,Q=>Q acc H
 | v::vs,H,acc,Q=>opt (gj tg v loc) (Xf elt cs (Zm src (iZ elt cs tg src loc vs) acc Q) (YW src (iZ elt cs tg src loc vs) acc Q) H)
noncomputable def Ta (src:HP->Prop) (r:PS) (Q:KS) (fl:Fl) (loc:Loc) (H:HP):Prop:=match fl with
 | .next=>src H/\r loc H Q
 | .cont=>src H/\r loc H Q
 | .brk=>Q .next loc H
 | .ret v=>Q (.ret v) loc H
noncomputable def MI (body:PS) (H:HP) (Q:KS) (loc:Loc):Prop:=body loc H Q
noncomputable def k9 (body:PS) (tg:Tg) (src:HP->Prop):List AV->PS
 | [],loc,H,Q=>Q .next loc H
 | v::vs,loc,H,Q=>opt (gj tg v loc) (MI body H (Ta src (k9 body tg src vs) Q))
noncomputable def Ub (Q:KV) (vs:List AV) (H:HP):Prop:=Lz vs (Q (.tup vs) H)
noncomputable def rG (Q:KV) (vs:List AV) (H:HP):Prop:=Lz vs (nw (.list vs) H Q)
noncomputable def CS (ks:List String) (Q:KV) (vv:List AV) (H:HP):Prop:=nw (.dict (cT ((ks.map .str).zip vv))) H Q
noncomputable def Pa (o:xx) (v:AV) (Q:KV) (u:AV) (H:HP):Prop:=NB o v u H Q
noncomputable def ST (b:PX) (o:xx) (loc:Loc) (Q:KV) (v:AV) (H:HP):Prop:=b loc H (Pa o v Q)
noncomputable def Ow (Q:KV) (H:HP) (t:Bool):Prop:=Q (.bool t) H
noncomputable def Ji (o:lU) (v:AV) (Q:KV) (u:AV) (H:HP):Prop:=LV o v u H (Ow Q H)
noncomputable def U6 (b:PX) (o:lU) (loc:Loc) (Q:KV) (v:AV) (H:HP):Prop:=b loc H (Ji o v Q)
noncomputable def SO (c:PX) (o2:lU) (loc:Loc) (u:AV) (H:HP) (Q:KV) (t:Bool):Prop:=match t with
 | true=>c loc H (Ji o2 u Q)
 | false=>Q (.bool false) H
noncomputable def US (c:PX) (o1 o2:lU) (loc:Loc) (v:AV) (Q:KV) (u:AV) (H:HP):Prop:=LV o1 v u H (SO c o2 loc u H Q)
noncomputable def XR (b c:PX) (o1 o2:lU) (loc:Loc) (Q:KV) (v:AV) (H:HP):Prop:=b loc H (US c o1 o2 loc v Q)
noncomputable def kT (F:KB) (v:AV) (H:HP):Prop:=cP v H F
noncomputable def LN (Q:KV) (t:Bool) (H:HP):Prop:=Q (.bool (!t)) H
noncomputable def Do (b:PX) (loc:Loc) (Q:KV) (v:AV) (t:Bool) (H:HP):Prop:=match t with
 | true=>b loc H Q
 | false=>Q v H
noncomputable def UN (b:PX) (loc:Loc) (Q:KV) (v:AV) (H:HP):Prop:=cP v H (Do b loc Q v)
noncomputable def FW (b:PX) (loc:Loc) (Q:KV) (v:AV) (t:Bool) (H:HP):Prop:=match t with
 | true=>Q v H
 | false=>b loc H Q
noncomputable def Tc (b:PX) (loc:Loc) (Q:KV) (v:AV) (H:HP):Prop:=cP v H (FW b loc Q v)
noncomputable def Y9 (b c:PX):PX:=λloc H Q=>b loc H (Tc c loc Q)
noncomputable def Qj (a b:PX) (loc:Loc) (Q:KV) (t:Bool) (H:HP):Prop:=match t with
 | true=>a loc H Q
 | false=>b loc H Q
noncomputable def UQ (Q:KV) (v:AV) (H:HP):Prop:=qg v.isNone (Ow Q H)
noncomputable def UU (Q:KV) (v:AV) (H:HP):Prop:=qg (!v.isNone) (Ow Q H)
noncomputable def Uz (n:String) (Q:KV) (v:AV) (H:HP):Prop:=Qx v n H (kU Q H)
noncomputable def Qg (v:AV) (Q:KV) (u:AV) (H:HP):Prop:=Qs v u H (kU Q H)
noncomputable def Un (i:PX) (loc:Loc) (Q:KV) (v:AV) (H:HP):Prop:=i loc H (Qg v Q)
noncomputable def Uo (v:AV) (Q:KV) (u:AV) (H:HP):Prop:=Qt v u H Q
noncomputable def Yy (i:PX) (loc:Loc) (Q:KV) (v:AV) (H:HP):Prop:=i loc H (Uo v Q)
noncomputable def TX (v:AV) (Q:KV) (u:AV) (H:HP):Prop:=No v u H Q
noncomputable def ZD (i:PX) (loc:Loc) (Q:KV) (v:AV) (H:HP):Prop:=i loc H (TX v Q)
noncomputable def Nk (Γ:aj) (f:String) (Q:KV) (vs:List AV) (H:HP):Prop:=Γ f vs H Q
noncomputable def TR (Γ:aj) (c:String) (Q:KV) (vs:List AV) (H:HP):Prop:=tV Γ c vs H Q
noncomputable def Oc (c:String) (Q:KV) (v:AV) (H:HP):Prop:=Fz v c H (Ow Q H)
noncomputable def Ka (Γ:aj) (p:String) (Q:KV) (vs:List AV) (H:HP):Prop:=JC Γ p vs H Q
noncomputable def Ym (v:AV) (Q:KL) (vs:List AV) (H:HP):Prop:=Q (v::vs) H
noncomputable def D2 (r:QZ) (loc:Loc) (Q:KL) (v:AV) (H:HP):Prop:=r loc H (Ym v Q)
noncomputable def N3 (r:PC) (loc:Loc) (Q:KB) (b:Bool) (H:HP):Prop:=match b with
 | true=>r loc H Q
 | false=>Q false H
noncomputable def LW (Q:KV) (xs:List AV) (H:HP):Prop:=nw (.list xs) H Q
noncomputable def NC (elt:PX) (tg:Tg) (ifs:PC) (loc:Loc) (Q:KV) (H:HP) (z:Src) (all:List AV):Prop:=iZ elt ifs tg (ck z all (z.gW H)) loc all H [] (LW Q)
noncomputable def Ou (elt:PX) (tg:Tg) (ifs:PC) (loc:Loc) (Q:KV) (H:HP) (z:Src):Prop:=opt (z.vals H) (NC elt tg ifs loc Q H z)
noncomputable def eV (elt:PX) (tg:Tg) (ik:IK) (ifs:PC) (loc:Loc) (Q:KV) (vs:List AV) (H:HP):Prop:=Mj ik vs (Ou elt tg ifs loc Q H)
noncomputable def Uk (loc:Loc) (Q:KS) (v:AV) (H:HP):Prop:=Q (.ret v) loc H
noncomputable def C7 (loc:Loc) (Q:KS) (_:AV) (H:HP):Prop:=Q .next loc H
noncomputable def Ug (x:String) (loc:Loc) (Q:KS) (v:AV) (H:HP):Prop:=Q .next (loc.upd x v) H
noncomputable def K5 (Q:KS) (H:HP) (loc:Loc):Prop:=Q .next loc H
noncomputable def Np (xs:List String) (loc:Loc) (Q:KS) (v:AV) (H:HP):Prop:=opt (gj (.tup xs) v loc) (K5 Q H)
noncomputable def NX (a:Nat) (n:String) (v:AV) (H:HP) (F:HP->Prop) (o:AO):Prop:=SW o λc fs=>gd (Nat.blt fs.length 100) (upd a (.inst c (u5 n v fs)) H F)
noncomputable def SA (n:String) (v:AV) (loc:Loc) (Q:KS) (u:AV) (H:HP):Prop:=uT u λa=>ob (H.g a) (NX a n v H (Q .next loc))
noncomputable def ZZ (o:PX) (n:String) (loc:Loc) (Q:KS) (v:AV) (H:HP):Prop:=o loc H (SA n v loc Q)
noncomputable def wi (a:Nat) (k v:AV) (H:HP) (F:HP->Prop) (o:AO):Prop:=match o with
 | .dict es=>bB k es/\es.length < lim/\upd a (.dict (bS k v es)) H F
 | .list xs=>jE k λj=>gd (qF j) (j.toNat < xs.length/\upd a (.list (xs.set j.toNat v)) H F)
 | _=>False
noncomputable def S4 (u v:AV) (loc:Loc) (Q:KS) (k:AV) (H:HP):Prop:=uT u λa=>ob (H.g a) (wi a k v H (Q .next loc))
noncomputable def Us (i:PX) (loc:Loc) (Q:KS) (v u:AV) (H:HP):Prop:=i loc H (S4 u v loc Q)
noncomputable def ZE (o i:PX) (loc:Loc) (Q:KS) (v:AV) (H:HP):Prop:=o loc H (Us i loc Q v)
noncomputable def V8 (a b:PS) (loc:Loc) (Q:KS) (t:Bool) (H:HP):Prop:=match t with
 | true=>a loc H Q
 | false=>b loc H Q
noncomputable def R4 (tg:Tg) (b:PS) (loc:Loc) (Q:KS) (H:HP) (z:Src) (all:List AV):Prop:=k9 b tg (ck z all (z.gW H)) all loc H Q
noncomputable def T4 (tg:Tg) (b:PS) (loc:Loc) (Q:KS) (H:HP) (z:Src):Prop:=opt (z.vals H) (R4 tg b loc Q H z)
noncomputable def w4 (tg:Tg) (ik:IK) (b:PS) (loc:Loc) (Q:KS) (vs:List AV) (H:HP):Prop:=Mj ik vs (T4 tg b loc Q H)
noncomputable def OZ (r:PS) (Q:KS) (fl:Fl) (loc:Loc) (H:HP):Prop:=match fl with
 | .next=>r loc H Q
 | .brk=>Q .brk loc H
 | .cont=>Q .cont loc H
 | .ret v=>Q (.ret v) loc H
noncomputable def TO (J:Loc->HP->Prop) (Q:KS) (fl:Fl) (loc:Loc) (H:HP):Prop:=match fl with
 | .next=>J loc H
 | .cont=>J loc H
 | .brk=>Q .next loc H
 | .ret v=>Q (.ret v) loc H
noncomputable def N4 (b:PS) (C Q:KS) (loc:Loc) (t:Bool) (H:HP):Prop:=match t with
 | true=>b loc H C
 | false=>Q .next loc H
noncomputable def YC (I:Nat->Loc->HP->Prop) (n:Nat) (loc:Loc) (H:HP):Prop:=∃m,m < n/\I m loc H
noncomputable def RZ (c:PX) (b:PS) (loc:Loc) (H:HP) (Q:KS):Prop:=∃(I:Nat->Loc->HP->Prop) (n:Nat),I n loc H/\∀n loc H,I n loc H->c loc H (kT (N4 b (TO (YC I n) Q) Q loc))
noncomputable def X:=aj->PX
noncomputable def XL:=aj->QZ
noncomputable def S:=aj->PS
noncomputable def SL:=aj->PS
namespace X
noncomputable def none:X:=λzz zz H Q=>Q .none H
noncomputable def bool (b:Bool):X:=λzz zz H Q=>Q (.bool b) H
noncomputable def int (i:Int):X:=λzz zz H Q=>Q (.int i) H
noncomputable def neg (i:Int):X:=λzz zz H Q=>Q (.int (-i)) H
noncomputable def str (s:String):X:=λzz zz H Q=>Q (.str s) H
noncomputable def bytes (b:List UInt8):X:=λzz zz H Q=>Q (.bytes b) H
noncomputable def loc (x:String):X:=λzz loc H Q=>Da (loc x) H Q
noncomputable def glob (x:String):X:=λzz zz H Q=>opt (Je.lookup x) (kU Q H)
noncomputable def tup (es:XL):X:=λΓ loc H Q=>es Γ loc H (Ub Q)
noncomputable def list (es:XL):X:=λΓ loc H Q=>es Γ loc H (rG Q)
noncomputable def dict (ks:List String) (es:XL):X:=λΓ loc H Q=>es Γ loc H (CS ks Q)
noncomputable def bin (o:xx) (a b:X):X:=λΓ loc H Q=>a Γ loc H (ST (b Γ) o loc Q)
noncomputable def cmp (o:lU) (a b:X):X:=λΓ loc H Q=>a Γ loc H (U6 (b Γ) o loc Q)
noncomputable def HJ (o1 o2:lU) (a b c:X):X:=λΓ loc H Q=>a Γ loc H (XR (b Γ) (c Γ) o1 o2 loc Q)
noncomputable def not (a:X):X:=λΓ loc H Q=>a Γ loc H (kT (LN Q))
noncomputable def and (a b:X):X:=λΓ loc H Q=>a Γ loc H (UN (b Γ) loc Q)
noncomputable def or (a b:X):X:=λΓ loc H Q=>a Γ loc H (Tc (b Γ) loc Q)
noncomputable def or3 (a b c:X):X:=λΓ loc H Q=>a Γ loc H (Tc (Y9 (b Γ) (c Γ)) loc Q)
noncomputable def ite (t a b:X):X:=λΓ loc H Q=>t Γ loc H (kT (Qj (a Γ) (b Γ) loc Q))
noncomputable def isNone (a:X):X:=λΓ loc H Q=>a Γ loc H (UQ Q)
noncomputable def bJ (a:X):X:=λΓ loc H Q=>a Γ loc H (UU Q)
noncomputable def fld (e:X) (n:String):X:=λΓ loc H Q=>e Γ loc H (Uz n Q)
noncomputable def idx (e i:X):X:=λΓ loc H Q=>e Γ loc H (Un (i Γ) loc Q)
noncomputable def yy (e i:X):X:=λΓ loc H Q=>e Γ loc H (Yy (i Γ) loc Q)
noncomputable def zH (e i:X):X:=λΓ loc H Q=>e Γ loc H (ZD (i Γ) loc Q)
noncomputable def call (f:String) (es:XL):X:=λΓ loc H Q=>es Γ loc H (Nk Γ f Q)
noncomputable def new (c:String) (es:XL):X:=λΓ loc H Q=>es Γ loc H (TR Γ c Q)
noncomputable def ay (e:X) (m:String) (es:XL):X:=λΓ loc H Q=>e Γ loc H (PH Γ (es Γ) m loc Q)
noncomputable def x8 (e r:X):X:=λΓ loc H Q=>e Γ loc H (Sf (r Γ) loc Q)
noncomputable def isin (e:X) (c:String):X:=λΓ loc H Q=>e Γ loc H (Oc c Q)
noncomputable def prim (p:String) (es:XL):X:=λΓ loc H Q=>es Γ loc H (Ka Γ p Q)
noncomputable def aC (elt:X) (tg:Tg) (ik:IK) (iY:XL) (ifs:aj->PC):X:=λΓ loc H Q=>iY Γ loc H (eV (elt Γ) tg ik (ifs Γ) loc Q)
noncomputable def yes:aj->PC:=λzz zz H Q=>Q true H
noncomputable def bN (c:X) (r:aj->PC):aj->PC:=λΓ loc H Q=>c Γ loc H (kT (N3 (r Γ) loc Q))
end X
namespace XL
noncomputable def nil:XL:=λzz zz H Q=>Q [] H
noncomputable def cons (e:X) (r:XL):XL:=λΓ loc H Q=>e Γ loc H (D2 (r Γ) loc Q)
noncomputable def o (e:X):XL:=cons e nil
end XL
namespace S
noncomputable def set (x:String) (e:X):S:=λΓ loc H Q=>e Γ loc H (Ug x loc Q)
noncomputable def dI (o:X) (n:String) (e:X):S:=λΓ loc H Q=>e Γ loc H (ZZ (o Γ) n loc Q)
noncomputable def b8 (o i e:X):S:=λΓ loc H Q=>e Γ loc H (ZE (o Γ) (i Γ) loc Q)
noncomputable def bM (xs:List String) (e:X):S:=λΓ loc H Q=>e Γ loc H (Np xs loc Q)
noncomputable def expr (e:X):S:=λΓ loc H Q=>e Γ loc H (C7 loc Q)
noncomputable def bA (c:X) (a b:SL):S:=λΓ loc H Q=>c Γ loc H (kT (V8 (a Γ) (b Γ) loc Q))
noncomputable def ij (c:X) (b:SL):S:=λΓ loc H Q=>RZ (c Γ) (b Γ) loc H Q
noncomputable def bW (tg:Tg) (ik:IK) (iY:XL) (b:SL):S:=λΓ loc H Q=>iY Γ loc H (w4 tg ik (b Γ) loc Q)
noncomputable def ret (e:X):S:=λΓ loc H Q=>e Γ loc H (Uk loc Q)
noncomputable def cont:S:=λzz loc H Q=>Q .cont loc H
noncomputable def brk:S:=λzz loc H Q=>Q .brk loc H
noncomputable def raise (_:String) (_:X):S:=λzz zz zz zz=>False
end S
namespace SL
noncomputable def nil:SL:=λzz loc H Q=>Q .next loc H
noncomputable def cons (s:S) (r:SL):SL:=λΓ loc H Q=>s Γ loc H (OZ (r Γ) Q)
noncomputable def o (s:S):SL:=cons s nil
end SL
noncomputable def pc:SL:=(.o (.dI (.loc "self") "text" (.loc "text")))
noncomputable def lI:SL:=(.cons (.dI (.loc "self") "head" (.loc "head")) (.o (.dI (.loc "self") "octets" (.loc "octets"))))
noncomputable def iX:SL:=(.cons (.dI (.loc "self") "number" (.loc "number")) (.o (.dI (.loc "self") "generation" (.loc "generation"))))
noncomputable def jV:SL:=(.o (.ret (.tup (.cons (.fld (.loc "self") "number") (.o (.fld (.loc "self") "generation"))))))
noncomputable def yN:SL:=(.cons (.bA (.isNone (.loc "value")) (.o (.ret (.str "null"))) .nil) (.cons (.bA (.isin (.loc "value") "bool") (.o (.ret (.str "truth"))) .nil) (.cons (.bA (.isin (.loc "value") "int") (.o (.ret (.str "int"))) .nil) (.cons (.bA (.isin (.loc "value") "Decimal") (.o (.ret (.str "real"))) .nil) (.cons (.bA (.isin (.loc "value") "Name") (.o (.ret (.str "name"))) .nil) (.cons (.bA (.isin (.loc "value") "String") (.o (.ret (.str "string"))) .nil) (.cons (.bA (.isin (.loc "value") "list") (.o (.ret (.str "array"))) .nil) (.cons (.bA (.isin (.loc "value") "dict") (.o (.ret (.str "dict"))) .nil) (.cons (.bA (.isin (.loc "value") "Stream") (.o (.ret (.str "stream"))) .nil) (.cons (.bA (.isin (.loc "value") "Reference") (.o (.ret (.str "ref"))) .nil) (.o (.raise "PaperError" (.str "no object")))))))))))))
noncomputable def qj:SL:=(.cons (.bA (.cmp .eq (.loc "kind") (.str "null")) (.o (.ret (.tup (.o (.str "null"))))) .nil) (.cons (.bA (.cmp .eq (.loc "kind") (.str "truth")) (.o (.ret (.tup (.cons (.str "truth") (.o (.ite (.loc "value") (.int 1) (.int 0))))))) .nil) (.cons (.bA (.cmp .eq (.loc "kind") (.str "int")) (.o (.ret (.tup (.cons (.str "int") (.o (.loc "value")))))) .nil) (.cons (.bA (.cmp .eq (.loc "kind") (.str "real")) (.o (.ret (.tup (.cons (.str "real") (.cons (.fld (.loc "value") "top") (.o (.fld (.loc "value") "places"))))))) .nil) (.cons (.bA (.cmp .eq (.loc "kind") (.str "name")) (.o (.ret (.tup (.cons (.str "name") (.o (.fld (.loc "value") "text")))))) .nil) (.cons (.bA (.cmp .eq (.loc "kind") (.str "string")) (.o (.ret (.tup (.cons (.str "string") (.o (.prim "bytes" (.o (.fld (.loc "value") "octets")))))))) .nil) (.o (.ret (.tup (.cons (.str "ref") (.cons (.fld (.loc "value") "number") (.o (.fld (.loc "value") "generation")))))))))))))
noncomputable def GY:SL:=(.cons (.set "kind" (.call "kind_of" (.o (.loc "value")))) (.cons (.bA (.cmp .eq (.loc "kind") (.str "array")) (.o (.ret (.bin .add (.tup (.o (.str "array"))) (.prim "tuple" (.o (.aC (.call "told_objects" (.o (.loc "part"))) (.nm "part") .plain (.o (.loc "value")) X.yes)))))) .nil) (.cons (.bA (.cmp .eq (.loc "kind") (.str "dict")) (.o (.ret (.bin .add (.tup (.o (.str "dict"))) (.prim "tuple" (.o (.aC (.tup (.cons (.loc "key") (.o (.call "told_objects" (.o (.idx (.loc "value") (.loc "key"))))))) (.nm "key") .plain (.o (.prim "sorted" (.o (.loc "value")))) (X.bN (.bJ (.idx (.loc "value") (.loc "key"))) X.yes))))))) .nil) (.cons (.bA (.cmp .eq (.loc "kind") (.str "stream")) (.o (.ret (.tup (.cons (.str "stream") (.cons (.call "told_objects" (.o (.fld (.loc "value") "head"))) (.o (.prim "bytes" (.o (.fld (.loc "value") "octets"))))))))) .nil) (.o (.ret (.call "told_plain" (.cons (.loc "kind") (.o (.loc "value"))))))))))
noncomputable def wF:SL:=(.cons (.set "kind" (.call "kind_of" (.o (.loc "value")))) (.cons (.bA (.cmp .eq (.loc "kind") (.str "array")) (.o (.ret (.prim "list" (.o (.loc "value"))))) .nil) (.cons (.bA (.cmp .eq (.loc "kind") (.str "dict")) (.o (.ret (.aC (.idx (.loc "value") (.loc "key")) (.nm "key") .plain (.o (.prim "sorted" (.o (.loc "value")))) X.yes))) .nil) (.cons (.bA (.cmp .eq (.loc "kind") (.str "stream")) (.o (.ret (.call "parts_of" (.o (.fld (.loc "value") "head"))))) .nil) (.o (.ret (.list .nil)))))))
noncomputable def kL:SL:=(.cons (.set "found" (.list .nil)) (.cons (.set "seen" (.dict [] .nil)) (.cons (.set "line" (.list (.o (.loc "value")))) (.cons (.ij (.loc "line") (.cons (.set "here" (.ay (.loc "line") "pop" .nil)) (.o (.bA (.isin (.loc "here") "Reference") (.o (.bA (.cmp .cL (.ay (.loc "here") "pair" .nil) (.loc "seen")) (.cons (.b8 (.loc "seen") (.ay (.loc "here") "pair" .nil) (.bool true)) (.o (.expr (.ay (.loc "found") "append" (.o (.ay (.loc "here") "pair" .nil)))))) .nil)) (.o (.expr (.x8 (.loc "line") (.call "parts_of" (.o (.loc "here")))))))))) (.o (.ret (.loc "found")))))))
noncomputable def qn:SL:=(.cons (.set "kind" (.call "kind_of" (.o (.loc "value")))) (.cons (.bA (.cmp .eq (.loc "kind") (.str "ref")) (.cons (.bA (.cmp .cL (.ay (.loc "value") "pair" .nil) (.loc "table")) (.o (.ret .none)) .nil) (.cons (.bM ["number","generation"] (.idx (.loc "table") (.ay (.loc "value") "pair" .nil))) (.o (.ret (.new "Reference" (.cons (.loc "number") (.o (.loc "generation")))))))) .nil) (.cons (.bA (.cmp .eq (.loc "kind") (.str "array")) (.o (.ret (.aC (.call "renumbered" (.cons (.loc "part") (.o (.loc "table")))) (.nm "part") .plain (.o (.loc "value")) X.yes))) .nil) (.cons (.bA (.cmp .eq (.loc "kind") (.str "dict")) (.cons (.set "found" (.aC (.tup (.cons (.loc "key") (.o (.call "renumbered" (.cons (.idx (.loc "value") (.loc "key")) (.o (.loc "table"))))))) (.nm "key") .plain (.o (.loc "value")) X.yes)) (.o (.ret (.prim "dict" (.o (.aC (.loc "pair") (.nm "pair") .plain (.o (.loc "found")) (X.bN (.bJ (.idx (.loc "pair") (.int 1))) X.yes))))))) .nil) (.cons (.bA (.cmp .eq (.loc "kind") (.str "stream")) (.o (.ret (.new "Stream" (.cons (.call "renumbered" (.cons (.fld (.loc "value") "head") (.o (.loc "table")))) (.o (.fld (.loc "value") "octets")))))) .nil) (.o (.ret (.loc "value"))))))))
noncomputable def gh:SL:=(.cons (.dI (.loc "self") "table" (.ite (.isNone (.loc "table")) (.dict [] .nil) (.loc "table"))) (.o (.dI (.loc "self") "trailer" (.ite (.isNone (.loc "trailer")) (.dict [] .nil) (.loc "trailer")))))
noncomputable def mY:SL:=(.cons (.set "here" (.loc "value")) (.cons (.bW (.nm "hop") .aE (.o (.glob "MOST_HOPS")) (.cons (.bA (.not (.isin (.loc "here") "Reference")) (.o (.ret (.loc "here"))) .nil) (.cons (.bM ["generation","found"] (.ay (.fld (.loc "self") "table") "get" (.cons (.fld (.loc "here") "number") (.o (.tup (.cons (.neg 1) (.o .none))))))) (.cons (.bA (.cmp .ne (.loc "generation") (.fld (.loc "here") "generation")) (.o (.ret .none)) .nil) (.o (.set "here" (.loc "found"))))))) (.o (.ret (.ite (.isin (.loc "here") "Reference") .none (.loc "here"))))))
noncomputable def qi:SL:=(.o (.ret (.ay (.loc "self") "fetch" (.o (.ay (.loc "head") "get" (.o (.loc "key")))))))
noncomputable def tW:SL:=(.o (.b8 (.fld (.loc "self") "table") (.loc "number") (.tup (.cons (.loc "generation") (.o (.loc "value"))))))
noncomputable def tY:SL:=(.cons (.set "number" (.int 1)) (.cons (.ij (.cmp .isIn (.loc "number") (.fld (.loc "self") "table")) (.o (.set "number" (.bin .add (.loc "number") (.int 1))))) (.cons (.b8 (.fld (.loc "self") "table") (.loc "number") (.tup (.cons (.int 0) (.o (.loc "value"))))) (.o (.ret (.new "Reference" (.cons (.loc "number") (.o (.int 0)))))))))
noncomputable def kS:SL:=(.o (.ret (.prim "sorted" (.o (.fld (.loc "self") "table")))))
noncomputable def qo:SL:=(.cons (.set "found" (.ay (.loc "self") "get" (.cons (.fld (.loc "self") "trailer") (.o (.str "Root"))))) (.o (.ret (.ite (.isin (.loc "found") "dict") (.loc "found") (.dict [] .nil)))))
noncomputable def qG:SL:=(.cons (.set "rows" (.prim "tuple" (.o (.aC (.tup (.cons (.loc "number") (.cons (.idx (.idx (.fld (.loc "self") "table") (.loc "number")) (.int 0)) (.o (.call "told_objects" (.o (.idx (.idx (.fld (.loc "self") "table") (.loc "number")) (.int 1)))))))) (.nm "number") .plain (.o (.ay (.loc "self") "numbers" .nil)) X.yes)))) (.o (.ret (.tup (.cons (.loc "rows") (.o (.call "told_objects" (.o (.fld (.loc "self") "trailer")))))))))
noncomputable def nL:SL:=(.cons (.dI (.loc "self") "reference" (.loc "reference")) (.o (.dI (.loc "self") "fields" (.loc "fields"))))
noncomputable def oo:SL:=(.cons (.dI (.loc "self") "reference" (.loc "reference")) (.cons (.dI (.loc "self") "head" (.loc "head")) (.cons (.dI (.loc "self") "above" (.loc "above")) (.cons (.dI (.loc "self") "inherited" (.loc "inherited")) (.o (.dI (.loc "self") "is_page" (.loc "is_page")))))))
noncomputable def yY:SL:=(.cons (.set "here" (.loc "value")) (.cons (.set "seen" (.dict [] .nil)) (.cons (.ij (.and (.isin (.loc "here") "Reference") (.cmp .cL (.fld (.loc "here") "number") (.loc "seen"))) (.cons (.b8 (.loc "seen") (.fld (.loc "here") "number") (.bool true)) (.cons (.bM ["generation","found"] (.ay (.fld (.loc "shelf") "table") "get" (.cons (.fld (.loc "here") "number") (.o (.tup (.cons (.neg 1) (.o .none))))))) (.cons (.bA (.cmp .ne (.loc "generation") (.fld (.loc "here") "generation")) (.o .brk) .nil) (.cons (.bA (.not (.isin (.loc "found") "Reference")) (.o (.ret (.loc "here"))) .nil) (.o (.set "here" (.loc "found")))))))) (.o (.raise "TreeFault" (.str "a node of the pages is missing"))))))
noncomputable def yb:SL:=(.cons (.set "kind" (.ay (.loc "shelf") "get" (.cons (.loc "head") (.o (.str "Type"))))) (.cons (.bA (.and (.isin (.loc "kind") "Name") (.cmp .isIn (.fld (.loc "kind") "text") (.tup (.cons (.str "Pages") (.o (.str "Page")))))) (.o (.ret (.cmp .eq (.fld (.loc "kind") "text") (.str "Pages")))) .nil) (.o (.ret (.bJ (.ay (.loc "shelf") "get" (.cons (.loc "head") (.o (.str "Kids")))))))))
noncomputable def yD:SL:=(.cons (.set "kids" (.ay (.loc "shelf") "get" (.cons (.loc "head") (.o (.str "Kids"))))) (.cons (.bA (.not (.isin (.loc "kids") "list")) (.o (.raise "TreeFault" (.str "a node of the pages without kids"))) .nil) (.o (.ret (.loc "kids")))))
noncomputable def KH:SL:=(.cons (.set "reference" (.call "home_of" (.cons (.loc "shelf") (.o (.loc "value"))))) (.cons (.set "head" (.ay (.loc "shelf") "fetch" (.o (.loc "reference")))) (.cons (.bA (.not (.isin (.loc "head") "dict")) (.o (.raise "TreeFault" (.str "a node of the pages is no dict"))) .nil) (.cons (.set "given" (.prim "dict" (.o (.loc "inherited")))) (.cons (.bW (.nm "key") .plain (.o (.glob "INHERITED")) (.o (.bA (.bJ (.ay (.loc "shelf") "get" (.cons (.loc "head") (.o (.loc "key"))))) (.o (.b8 (.loc "given") (.loc "key") (.idx (.loc "head") (.loc "key")))) .nil))) (.o (.ret (.new "Spot" (.cons (.loc "reference") (.cons (.loc "head") (.cons (.loc "above") (.cons (.loc "given") (.o (.not (.call "is_node" (.cons (.loc "shelf") (.o (.loc "head"))))))))))))))))))
noncomputable def F7:SL:=(.cons (.set "found" (.list .nil)) (.cons (.set "seen" (.dict [] .nil)) (.cons (.set "line" (.list (.o (.tup (.cons (.ay (.ay (.loc "shelf") "root" .nil) "get" (.o (.str "Pages"))) (.cons (.tup .nil) (.o (.dict [] .nil)))))))) (.cons (.ij (.loc "line") (.cons (.bM ["value","above","inherited"] (.ay (.loc "line") "pop" .nil)) (.cons (.set "spot" (.call "met" (.cons (.loc "shelf") (.cons (.loc "value") (.cons (.loc "above") (.o (.loc "inherited"))))))) (.cons (.bA (.or (.cmp .isIn (.fld (.fld (.loc "spot") "reference") "number") (.loc "seen")) (.and (.cmp .eq (.loc "found") (.list .nil)) (.fld (.loc "spot") "is_page"))) (.o (.raise "TreeFault" (.str "a node of the pages stands twice, or the root is a page"))) .nil) (.cons (.b8 (.loc "seen") (.fld (.fld (.loc "spot") "reference") "number") (.bool true)) (.cons (.expr (.ay (.loc "found") "append" (.o (.loc "spot")))) (.o (.bA (.not (.fld (.loc "spot") "is_page")) (.o (.bW (.nm "kid") .rev (.o (.call "kids_of" (.cons (.loc "shelf") (.o (.fld (.loc "spot") "head"))))) (.o (.expr (.ay (.loc "line") "append" (.o (.tup (.cons (.loc "kid") (.cons (.bin .add (.loc "above") (.tup (.o (.fld (.loc "spot") "reference")))) (.o (.fld (.loc "spot") "inherited"))))))))))) .nil)))))))) (.o (.ret (.loc "found")))))))
noncomputable def sM:SL:=(.cons (.set "found" (.prim "dict" (.o (.fld (.loc "spot") "head")))) (.cons (.bW (.nm "key") .plain (.o (.glob "INHERITED")) (.o (.bA (.and (.cmp .isIn (.loc "key") (.fld (.loc "spot") "inherited")) (.isNone (.ay (.loc "shelf") "get" (.cons (.fld (.loc "spot") "head") (.o (.loc "key")))))) (.o (.b8 (.loc "found") (.loc "key") (.idx (.fld (.loc "spot") "inherited") (.loc "key")))) .nil))) (.o (.ret (.loc "found")))))
noncomputable def qE:SL:=(.o (.ret (.aC (.loc "spot") (.nm "spot") .plain (.o (.call "spots" (.o (.loc "shelf")))) (X.bN (.fld (.loc "spot") "is_page") X.yes))))
noncomputable def FJ:SL:=(.o (.ret (.aC (.new "Page" (.cons (.fld (.loc "spot") "reference") (.o (.call "fields_of" (.cons (.loc "shelf") (.o (.loc "spot"))))))) (.nm "spot") .plain (.o (.call "page_spots" (.o (.loc "shelf")))) X.yes)))
noncomputable def uX:SL:=(.cons (.bM ["number","generation"] (.loc "pair")) (.o (.ret (.and (.cmp .isIn (.loc "number") (.fld (.loc "shelf") "table")) (.cmp .eq (.idx (.idx (.fld (.loc "shelf") "table") (.loc "number")) (.int 0)) (.loc "generation"))))))
noncomputable def kZ:SL:=(.o (.ret (.prim "dict" (.o (.aC (.tup (.cons (.loc "key") (.o (.idx (.fld (.loc "shelf") "trailer") (.loc "key"))))) (.nm "key") .plain (.o (.fld (.loc "shelf") "trailer")) (X.bN (.cmp .cL (.loc "key") (.glob "PLACES_OF_FILES")) X.yes))))))
noncomputable def GR:SL:=(.cons (.set "found" (.aC (.loc "pair") (.nm "pair") .plain (.o (.call "references_in" (.o (.loc "value")))) (X.bN (.call "is_there" (.cons (.loc "shelf") (.o (.loc "pair")))) X.yes))) (.cons (.set "seen" (.prim "dict" (.o (.aC (.tup (.cons (.loc "pair") (.o (.bool true)))) (.nm "pair") .plain (.o (.loc "found")) X.yes)))) (.cons (.set "at" (.int 0)) (.cons (.ij (.cmp .lt (.loc "at") (.prim "len" (.o (.loc "found")))) (.cons (.bW (.nm "pair") .plain (.o (.call "references_in" (.o (.idx (.idx (.fld (.loc "shelf") "table") (.idx (.idx (.loc "found") (.loc "at")) (.int 0))) (.int 1))))) (.o (.bA (.and (.cmp .cL (.loc "pair") (.loc "seen")) (.call "is_there" (.cons (.loc "shelf") (.o (.loc "pair"))))) (.cons (.b8 (.loc "seen") (.loc "pair") (.bool true)) (.o (.expr (.ay (.loc "found") "append" (.o (.loc "pair")))))) .nil))) (.o (.set "at" (.bin .add (.loc "at") (.int 1)))))) (.o (.ret (.loc "found")))))))
noncomputable def xT:SL:=(.o (.ret (.prim "sorted" (.o (.aC (.idx (.loc "pair") (.int 0)) (.nm "pair") .plain (.o (.call "walk" (.cons (.loc "shelf") (.o (.loc "value"))))) X.yes)))))
noncomputable def sD:SL:=(.cons (.set "found" (.prim "dict" (.o (.aC (.tup (.cons (.loc "number") (.o (.bool true)))) (.nm "number") .plain (.o (.call "reached" (.cons (.loc "shelf") (.o (.call "plain_trailer" (.o (.loc "shelf"))))))) X.yes)))) (.o (.ret (.aC (.loc "number") (.nm "number") .plain (.o (.ay (.loc "shelf") "numbers" .nil)) (X.bN (.cmp .cL (.loc "number") (.loc "found")) X.yes)))))
noncomputable def kh:SL:=(.cons (.set "found" (.prim "dict" (.o (.aC (.tup (.cons (.fld (.fld (.loc "spot") "reference") "number") (.o (.bool true)))) (.nm "spot") .plain (.o (.call "spots" (.o (.loc "shelf")))) X.yes)))) (.cons (.set "root" (.ay (.fld (.loc "shelf") "trailer") "get" (.o (.str "Root")))) (.cons (.bA (.isin (.loc "root") "Reference") (.o (.b8 (.loc "found") (.fld (.loc "root") "number") (.bool true))) .nil) (.o (.ret (.loc "found"))))))
noncomputable def iV:SL:=(.cons (.dI (.loc "self") "shelf" (.loc "shelf")) (.cons (.dI (.loc "self") "made" (.loc "made")) (.cons (.dI (.loc "self") "table" (.dict [] .nil)) (.o (.dI (.loc "self") "barred" (.call "barred_numbers" (.o (.loc "shelf"))))))))
noncomputable def ic:SL:=(.cons (.set "reference" (.ay (.fld (.loc "self") "made") "add" (.o .none))) (.cons (.bA (.cmp .cL (.ay (.fld (.loc "page") "reference") "pair" .nil) (.fld (.loc "self") "table")) (.o (.b8 (.fld (.loc "self") "table") (.ay (.fld (.loc "page") "reference") "pair" .nil) (.ay (.loc "reference") "pair" .nil))) .nil) (.o (.ret (.loc "reference")))))
noncomputable def fM:SL:=(.cons (.set "line" (.call "references_in" (.o (.loc "value")))) (.cons (.set "fresh" (.list .nil)) (.cons (.set "at" (.int 0)) (.cons (.ij (.cmp .lt (.loc "at") (.prim "len" (.o (.loc "line")))) (.cons (.set "pair" (.idx (.loc "line") (.loc "at"))) (.cons (.set "at" (.bin .add (.loc "at") (.int 1))) (.cons (.bA (.or (.cmp .isIn (.loc "pair") (.fld (.loc "self") "table")) (.not (.call "is_there" (.cons (.fld (.loc "self") "shelf") (.o (.loc "pair")))))) (.o .cont) .nil) (.cons (.bA (.cmp .isIn (.idx (.loc "pair") (.int 0)) (.fld (.loc "self") "barred")) (.o .cont) .nil) (.cons (.b8 (.fld (.loc "self") "table") (.loc "pair") (.ay (.ay (.fld (.loc "self") "made") "add" (.o .none)) "pair" .nil)) (.cons (.expr (.ay (.loc "fresh") "append" (.o (.loc "pair")))) (.o (.expr (.ay (.loc "line") "extend" (.o (.call "references_in" (.o (.idx (.idx (.fld (.fld (.loc "self") "shelf") "table") (.idx (.loc "pair") (.int 0))) (.int 1))))))))))))))) (.o (.ret (.loc "fresh")))))))
noncomputable def lK:SL:=(.o (.bW (.nm "pair") .plain (.o (.loc "fresh")) (.o (.expr (.ay (.fld (.loc "self") "made") "put" (.cons (.idx (.idx (.fld (.loc "self") "table") (.loc "pair")) (.int 0)) (.cons (.int 0) (.o (.call "renumbered" (.cons (.idx (.idx (.fld (.fld (.loc "self") "shelf") "table") (.idx (.loc "pair") (.int 0))) (.int 1)) (.o (.fld (.loc "self") "table"))))))))))))
noncomputable def sH:SL:=(.cons (.set "fields" (.prim "dict" (.o (.aC (.tup (.cons (.loc "key") (.o (.idx (.fld (.loc "page") "fields") (.loc "key"))))) (.nm "key") .plain (.o (.fld (.loc "page") "fields")) (X.bN (.cmp .ne (.loc "key") (.str "Parent")) X.yes))))) (.cons (.b8 (.loc "fields") (.str "Type") (.new "Name" (.o (.str "Page")))) (.o (.ret (.loc "fields")))))
noncomputable def s7:SL:=(.cons (.set "made" (.new "Shelf" .nil)) (.cons (.set "root" (.ay (.loc "made") "add" (.o .none))) (.cons (.set "parent" (.ay (.loc "made") "add" (.o .none))) (.cons (.set "collectors" (.aC (.new "Collector" (.cons (.loc "shelf") (.o (.loc "made")))) (.nm "shelf") .plain (.o (.loc "shelves")) X.yes)) (.cons (.set "kids" (.aC (.ay (.idx (.loc "collectors") (.loc "at")) "reserve" (.o (.loc "page"))) (.tup ["at","page"]) .plain (.o (.loc "places")) X.yes)) (.cons (.bW (.nm "spot") .aE (.o (.prim "len" (.o (.loc "places")))) (.cons (.bM ["at","page"] (.idx (.loc "places") (.loc "spot"))) (.cons (.set "collector" (.idx (.loc "collectors") (.loc "at"))) (.cons (.set "fields" (.call "bare_page" (.o (.loc "page")))) (.cons (.expr (.ay (.loc "collector") "lay" (.o (.ay (.loc "collector") "take_needed" (.o (.loc "fields")))))) (.cons (.set "laid" (.call "renumbered" (.cons (.loc "fields") (.o (.fld (.loc "collector") "table"))))) (.cons (.b8 (.loc "laid") (.str "Parent") (.loc "parent")) (.o (.expr (.ay (.loc "made") "put" (.cons (.fld (.idx (.loc "kids") (.loc "spot")) "number") (.cons (.int 0) (.o (.loc "laid")))))))))))))) (.cons (.expr (.ay (.loc "made") "put" (.cons (.fld (.loc "parent") "number") (.cons (.int 0) (.o (.dict ["Type","Kids","Count"] (.cons (.new "Name" (.o (.str "Pages"))) (.cons (.prim "list" (.o (.loc "kids"))) (.o (.prim "len" (.o (.loc "kids")))))))))))) (.cons (.expr (.ay (.loc "made") "put" (.cons (.fld (.loc "root") "number") (.cons (.int 0) (.o (.dict ["Type","Pages"] (.cons (.new "Name" (.o (.str "Catalog"))) (.o (.loc "parent"))))))))) (.cons (.dI (.loc "made") "trailer" (.dict ["Root"] (.o (.loc "root")))) (.o (.ret (.loc "made"))))))))))))
noncomputable def BX:SL:=(.cons (.set "places" (.list .nil)) (.cons (.bW (.nm "at") .aE (.o (.prim "len" (.o (.loc "shelves")))) (.o (.bW (.nm "page") .plain (.o (.call "pages" (.o (.idx (.loc "shelves") (.loc "at"))))) (.o (.expr (.ay (.loc "places") "append" (.o (.tup (.cons (.loc "at") (.o (.loc "page"))))))))))) (.o (.ret (.call "assembled" (.cons (.loc "shelves") (.o (.loc "places"))))))))
noncomputable def iC:SL:=(.cons (.set "row" (.call "pages" (.o (.loc "shelf")))) (.cons (.bA (.cmp .ne (.aC (.loc "index") (.nm "index") .plain (.o (.loc "indexes")) (X.bN (.not (.HJ .le .lt (.int 0) (.loc "index") (.prim "len" (.o (.loc "row"))))) X.yes)) (.list .nil)) (.o (.raise "TreeFault" (.str "no such page"))) .nil) (.o (.ret (.call "assembled" (.cons (.list (.o (.loc "shelf"))) (.o (.aC (.tup (.cons (.int 0) (.o (.idx (.loc "row") (.loc "index"))))) (.nm "index") .plain (.o (.loc "indexes")) X.yes))))))))
noncomputable def uC:SL:=(.cons (.set "count" (.prim "len" (.o (.call "pages" (.o (.loc "shelf")))))) (.cons (.set "found" (.list .nil)) (.cons (.set "first" (.int 0)) (.cons (.bW (.nm "size") .plain (.o (.bin .add (.prim "list" (.o (.loc "sizes"))) (.list (.o (.loc "count"))))) (.cons (.set "behind" (.prim "min" (.cons (.bin .add (.loc "first") (.prim "max" (.cons (.loc "size") (.o (.int 0))))) (.o (.loc "count"))))) (.cons (.bA (.cmp .gt (.loc "behind") (.loc "first")) (.o (.expr (.ay (.loc "found") "append" (.o (.call "split_pages" (.cons (.loc "shelf") (.o (.prim "listrange" (.cons (.loc "first") (.o (.loc "behind"))))))))))) .nil) (.o (.set "first" (.loc "behind")))))) (.o (.ret (.loc "found")))))))
noncomputable def vw:SL:=(.cons (.set "number" (.int 0)) (.cons (.bW (.nm "cell") .plain (.o (.yy (.loc "script") (.int 24))) (.o (.set "number" (.bin .add (.bin .add (.bin .add (.bin .mul (.loc "number") (.int 1000003)) (.bin .mul (.int 2) (.prim "abs" (.o (.loc "cell"))))) (.ite (.cmp .lt (.loc "cell") (.int 0)) (.int 1) (.int 0))) (.int 1))))) (.o (.ret (.list (.cons (.loc "number") (.o (.int 0))))))))
noncomputable def si:SL:=(.cons (.b8 (.loc "pen") (.int 1) (.bin .add (.idx (.loc "pen") (.int 1)) (.int 1))) (.cons (.bA (.cmp .gt (.idx (.loc "pen") (.int 0)) (.int 0)) (.cons (.set "digit" (.bin .mod (.idx (.loc "pen") (.int 0)) (.loc "many"))) (.cons (.b8 (.loc "pen") (.int 0) (.bin .fdiv (.idx (.loc "pen") (.int 0)) (.loc "many"))) (.o (.ret (.loc "digit"))))) .nil) (.o (.ret (.bin .mod (.bin .add (.bin .mul (.idx (.loc "pen") (.int 1)) (.idx (.loc "pen") (.int 1))) (.int 1)) (.loc "many"))))))
noncomputable def sX:SL:=(.cons (.bA (.cmp .eq (.call "_law_draw" (.cons (.loc "pen") (.o (.int 3)))) (.int 0)) (.o (.b8 (.loc "head") (.str "Rotate") (.bin .mul (.int 90) (.call "_law_draw" (.cons (.loc "pen") (.o (.int 4))))))) .nil) (.cons (.bA (.cmp .eq (.call "_law_draw" (.cons (.loc "pen") (.o (.int 3)))) (.int 0)) (.o (.b8 (.loc "head") (.str "Resources") (.idx (.loc "own") (.call "_law_draw" (.cons (.loc "pen") (.o (.int 2))))))) .nil) (.cons (.bA (.cmp .eq (.call "_law_draw" (.cons (.loc "pen") (.o (.int 4)))) (.int 0)) (.o (.b8 (.loc "head") (.idx (.tup (.cons (.str "MediaBox") (.o (.str "CropBox")))) (.call "_law_draw" (.cons (.loc "pen") (.o (.int 2))))) (.list (.cons (.int 0) (.cons (.int 0) (.cons (.bin .add (.int 1) (.call "_law_draw" (.cons (.loc "pen") (.o (.int 9))))) (.o (.int 7)))))))) .nil) (.o (.ret (.loc "head"))))))
noncomputable def sO:SL:=(.cons (.set "head" (.call "_law_fill" (.cons (.loc "pen") (.cons (.loc "shelf") (.cons (.loc "own") (.o (.dict ["Type","Parent","Contents"] (.cons (.new "Name" (.o (.str "Page"))) (.cons (.loc "parent") (.o (.idx (.loc "own") (.bin .add (.int 2) (.call "_law_draw" (.cons (.loc "pen") (.o (.int 2)))))))))))))))) (.cons (.b8 (.loc "head") (.str "Mark") (.prim "len" (.o (.loc "rows")))) (.cons (.bA (.cmp .eq (.call "_law_draw" (.cons (.loc "pen") (.o (.int 4)))) (.int 0)) (.o (.expr (.ay (.loc "head") "pop" (.o (.str "Type"))))) .nil) (.cons (.set "reference" (.ay (.loc "shelf") "add" (.o (.loc "head")))) (.cons (.expr (.ay (.loc "rows") "append" (.o (.tup (.cons (.loc "reference") (.o (.prim "dict" (.o (.bin .add (.aC (.tup (.cons (.loc "key") (.o (.idx (.loc "given") (.loc "key"))))) (.nm "key") .plain (.o (.loc "given")) (X.bN (.cmp .cL (.loc "key") (.loc "head")) X.yes)) (.aC (.tup (.cons (.loc "key") (.o (.idx (.loc "head") (.loc "key"))))) (.nm "key") .plain (.o (.loc "head")) X.yes)))))))))) (.o (.ret (.loc "reference"))))))))
noncomputable def s9:SL:=(.cons (.set "head" (.call "_law_fill" (.cons (.loc "pen") (.cons (.loc "shelf") (.cons (.loc "own") (.o (.dict ["Type"] (.o (.new "Name" (.o (.str "Pages"))))))))))) (.cons (.bA (.bJ (.loc "parent")) (.o (.b8 (.loc "head") (.str "Parent") (.loc "parent"))) .nil) (.cons (.set "reference" (.ay (.loc "shelf") "add" (.o (.loc "head")))) (.cons (.set "below" (.prim "dict" (.o (.bin .add (.aC (.tup (.cons (.loc "key") (.o (.idx (.loc "given") (.loc "key"))))) (.nm "key") .plain (.o (.loc "given")) X.yes) (.aC (.tup (.cons (.loc "key") (.o (.idx (.loc "head") (.loc "key"))))) (.nm "key") .plain (.o (.tup (.cons (.str "Rotate") (.cons (.str "Resources") (.cons (.str "MediaBox") (.o (.str "CropBox"))))))) (X.bN (.cmp .isIn (.loc "key") (.loc "head")) X.yes)))))) (.cons (.set "count" (.prim "len" (.o (.loc "rows")))) (.cons (.set "kids" (.list .nil)) (.cons (.bW (.nm "turn") .aE (.o (.bin .add (.int 1) (.call "_law_draw" (.cons (.loc "pen") (.o (.int 2)))))) (.o (.bA (.and (.cmp .gt (.loc "deep") (.int 0)) (.cmp .eq (.call "_law_draw" (.cons (.loc "pen") (.o (.int 2)))) (.int 0))) (.o (.expr (.ay (.loc "kids") "append" (.o (.call "_law_node" (.cons (.loc "pen") (.cons (.loc "shelf") (.cons (.loc "own") (.cons (.loc "reference") (.cons (.loc "below") (.cons (.bin .sub (.loc "deep") (.int 1)) (.o (.loc "rows"))))))))))))) (.o (.expr (.ay (.loc "kids") "append" (.o (.call "_law_page" (.cons (.loc "pen") (.cons (.loc "shelf") (.cons (.loc "own") (.cons (.loc "reference") (.cons (.loc "below") (.o (.loc "rows"))))))))))))))) (.cons (.b8 (.loc "head") (.str "Kids") (.loc "kids")) (.cons (.b8 (.loc "head") (.str "Count") (.bin .sub (.prim "len" (.o (.loc "rows"))) (.loc "count"))) (.o (.ret (.loc "reference"))))))))))))
noncomputable def lq:SL:=(.cons (.set "shelf" (.new "Shelf" .nil)) (.cons (.set "own" (.list (.cons (.ay (.loc "shelf") "add" (.o (.dict ["Font"] (.o (.int 1))))) (.cons (.ay (.loc "shelf") "add" (.o (.dict ["Font"] (.o (.int 2))))) (.cons (.ay (.loc "shelf") "add" (.o (.new "Stream" (.cons (.dict [] .nil) (.o (.bytes [113,32,81])))))) (.o (.ay (.loc "shelf") "add" (.o (.new "Stream" (.cons (.dict ["A"] (.o (.int 1))) (.o (.bytes [102])))))))))))) (.cons (.set "rows" (.list .nil)) (.cons (.set "root" (.call "_law_node" (.cons (.loc "pen") (.cons (.loc "shelf") (.cons (.loc "own") (.cons .none (.cons (.dict [] .nil) (.cons (.int 1) (.o (.loc "rows")))))))))) (.cons (.dI (.loc "shelf") "trailer" (.dict ["Root","Size"] (.cons (.ay (.loc "shelf") "add" (.o (.dict ["Type","Pages"] (.cons (.new "Name" (.o (.str "Catalog"))) (.o (.loc "root")))))) (.o (.int 40))))) (.cons (.bW (.tup ["reference","fields"]) .plain (.o (.loc "rows")) (.o (.bA (.cmp .eq (.call "_law_draw" (.cons (.loc "pen") (.o (.int 2)))) (.int 0)) (.cons (.set "peer" (.idx (.idx (.loc "rows") (.call "_law_draw" (.cons (.loc "pen") (.o (.prim "len" (.o (.loc "rows"))))))) (.int 0))) (.cons (.b8 (.loc "fields") (.str "Peer") (.loc "peer")) (.o (.b8 (.idx (.idx (.fld (.loc "shelf") "table") (.fld (.loc "reference") "number")) (.int 1)) (.str "Peer") (.loc "peer"))))) .nil))) (.o (.ret (.tup (.cons (.loc "shelf") (.o (.loc "rows"))))))))))))
noncomputable def lg:SL:=(.cons (.bA (.isin (.loc "value") "Reference") (.cons (.set "found" (.ay (.loc "shelf") "fetch" (.o (.loc "value")))) (.o (.ret (.tup (.cons (.str "to") (.cons (.ite (.isin (.loc "found") "Stream") (.call "told_objects" (.o (.fld (.loc "found") "head"))) (.call "told_objects" (.o (.loc "found")))) (.o (.ite (.isin (.loc "found") "Stream") (.fld (.loc "found") "octets") (.bytes []))))))))) .nil) (.o (.ret (.call "told_objects" (.o (.loc "value"))))))
noncomputable def j0:SL:=(.cons (.set "keys" (.aC (.loc "key") (.nm "key") .plain (.o (.prim "sorted" (.o (.loc "fields")))) (X.bN (.cmp .cL (.loc "key") (.tup (.cons (.str "Parent") (.cons (.str "Peer") (.o (.str "Type")))))) X.yes))) (.cons (.bA (.cmp .ne (.aC (.loc "key") (.nm "key") .plain (.o (.prim "sorted" (.o (.fld (.loc "page") "fields")))) (X.bN (.cmp .cL (.loc "key") (.tup (.cons (.str "Parent") (.cons (.str "Peer") (.o (.str "Type")))))) X.yes)) (.loc "keys")) (.o (.ret (.bool false))) .nil) (.cons (.bA (.cmp .ne (.call "told_objects" (.o (.idx (.fld (.loc "page") "fields") (.str "Type")))) (.tup (.cons (.str "name") (.o (.str "Page"))))) (.o (.ret (.bool false))) .nil) (.cons (.bW (.nm "key") .plain (.o (.loc "keys")) (.o (.bA (.cmp .ne (.call "_law_unfolded" (.cons (.loc "made") (.o (.idx (.fld (.loc "page") "fields") (.loc "key"))))) (.call "_law_unfolded" (.cons (.loc "shelf") (.o (.idx (.loc "fields") (.loc "key")))))) (.o (.ret (.bool false))) .nil))) (.cons (.set "peer" (.ite (.cmp .isIn (.str "Peer") (.loc "fields")) (.fld (.idx (.loc "fields") (.str "Peer")) "number") (.neg 1))) (.cons (.bA (.cmp .cL (.loc "peer") (.loc "places")) (.o (.ret (.cmp .cL (.str "Peer") (.fld (.loc "page") "fields")))) .nil) (.o (.ret (.and (.cmp .isIn (.str "Peer") (.fld (.loc "page") "fields")) (.cmp .eq (.ay (.idx (.fld (.loc "page") "fields") (.str "Peer")) "pair" .nil) (.idx (.loc "places") (.loc "peer"))))))))))))
noncomputable def j1:SL:=(.cons (.set "row" (.call "pages" (.o (.loc "made")))) (.cons (.set "node" (.ay (.loc "made") "get" (.cons (.ay (.loc "made") "root" .nil) (.o (.str "Pages"))))) (.cons (.bA (.or3 (.cmp .ne (.prim "len" (.o (.loc "row"))) (.prim "len" (.o (.loc "wanted")))) (.cmp .ne (.prim "sorted" (.o (.ay (.loc "made") "root" .nil))) (.list (.cons (.str "Pages") (.o (.str "Type"))))) (.cmp .ne (.prim "sorted" (.o (.fld (.loc "made") "trailer"))) (.list (.o (.str "Root"))))) (.o (.ret (.bool false))) .nil) (.cons (.bA (.or3 (.cmp .ne (.prim "sorted" (.o (.loc "node"))) (.list (.cons (.str "Count") (.cons (.str "Kids") (.o (.str "Type")))))) (.cmp .ne (.idx (.loc "node") (.str "Count")) (.prim "len" (.o (.loc "row")))) (.cmp .ne (.call "unreached" (.o (.loc "made"))) (.list .nil))) (.o (.ret (.bool false))) .nil) (.cons (.bA (.cmp .ne (.aC (.ay (.loc "kid") "pair" .nil) (.nm "kid") .plain (.o (.idx (.loc "node") (.str "Kids"))) X.yes) (.aC (.ay (.fld (.loc "page") "reference") "pair" .nil) (.nm "page") .plain (.o (.loc "row")) X.yes)) (.o (.ret (.bool false))) .nil) (.cons (.set "places" (.list (.cons (.dict [] .nil) (.o (.dict [] .nil))))) (.cons (.bW (.nm "at") .aE (.o (.prim "len" (.o (.loc "row")))) (.cons (.bM ["which","shelf","reference","fields"] (.idx (.loc "wanted") (.loc "at"))) (.o (.bA (.cmp .cL (.fld (.loc "reference") "number") (.idx (.loc "places") (.loc "which"))) (.o (.b8 (.idx (.loc "places") (.loc "which")) (.fld (.loc "reference") "number") (.ay (.fld (.idx (.loc "row") (.loc "at")) "reference") "pair" .nil))) .nil)))) (.cons (.bW (.nm "at") .aE (.o (.prim "len" (.o (.loc "row")))) (.cons (.bM ["which","shelf","reference","fields"] (.idx (.loc "wanted") (.loc "at"))) (.cons (.bA (.cmp .ne (.ay (.idx (.fld (.idx (.loc "row") (.loc "at")) "fields") (.str "Parent")) "pair" .nil) (.ay (.idx (.ay (.loc "made") "root" .nil) (.str "Pages")) "pair" .nil)) (.o (.ret (.bool false))) .nil) (.o (.bA (.not (.call "_law_page_fits" (.cons (.loc "made") (.cons (.idx (.loc "row") (.loc "at")) (.cons (.loc "shelf") (.cons (.loc "fields") (.o (.idx (.loc "places") (.loc "which"))))))))) (.o (.ret (.bool false))) .nil))))) (.cons (.set "contents" (.prim "dict" (.o (.aC (.tup (.cons (.prim "repr" (.o (.call "_law_unfolded" (.cons (.loc "made") (.o (.idx (.fld (.loc "page") "fields") (.str "Contents"))))))) (.o (.bool true)))) (.nm "page") .plain (.o (.loc "row")) X.yes)))) (.cons (.set "numbers" (.prim "dict" (.o (.aC (.tup (.cons (.fld (.idx (.fld (.loc "page") "fields") (.str "Contents")) "number") (.o (.bool true)))) (.nm "page") .plain (.o (.loc "row")) X.yes)))) (.o (.ret (.or (.cmp .ne (.prim "len" (.o (.prim "dict" (.o (.aC (.tup (.cons (.idx (.loc "shelf_at") (.int 0)) (.o (.bool true)))) (.nm "shelf_at") .plain (.o (.loc "wanted")) X.yes))))) (.int 1)) (.cmp .eq (.prim "len" (.o (.loc "numbers"))) (.prim "len" (.o (.loc "contents")))))))))))))))))
noncomputable def KC:SL:=(.cons (.set "pen" (.call "_law_pen" (.o (.loc "script")))) (.cons (.set "documents" (.aC (.call "_law_document" (.o (.loc "pen"))) (.nm "turn") .aE (.o (.bin .add (.int 1) (.call "_law_draw" (.cons (.loc "pen") (.o (.int 2)))))) X.yes)) (.cons (.set "kept" (.aC (.ay (.loc "shelf") "told" .nil) (.tup ["shelf","rows"]) .plain (.o (.loc "documents")) X.yes)) (.cons (.set "every" (.list .nil)) (.cons (.bW (.nm "which") .aE (.o (.prim "len" (.o (.loc "documents")))) (.cons (.bM ["shelf","rows"] (.idx (.loc "documents") (.loc "which"))) (.o (.set "every" (.bin .add (.loc "every") (.aC (.tup (.cons (.loc "which") (.cons (.loc "shelf") (.cons (.loc "reference") (.o (.loc "fields")))))) (.tup ["reference","fields"]) .plain (.o (.loc "rows")) X.yes)))))) (.cons (.bA (.not (.call "_law_made_fits" (.cons (.call "merged" (.o (.aC (.loc "shelf") (.tup ["shelf","rows"]) .plain (.o (.loc "documents")) X.yes))) (.o (.loc "every"))))) (.o (.ret (.bool false))) .nil) (.cons (.bM ["shelf","rows"] (.idx (.loc "documents") (.int 0))) (.cons (.set "indexes" (.aC (.call "_law_draw" (.cons (.loc "pen") (.o (.prim "len" (.o (.loc "rows")))))) (.nm "turn") .aE (.o (.call "_law_draw" (.cons (.loc "pen") (.o (.int 4))))) X.yes)) (.cons (.set "wanted" (.aC (.tup (.cons (.int 0) (.cons (.loc "shelf") (.cons (.idx (.idx (.loc "rows") (.loc "index")) (.int 0)) (.o (.idx (.idx (.loc "rows") (.loc "index")) (.int 1))))))) (.nm "index") .plain (.o (.loc "indexes")) X.yes)) (.cons (.bA (.not (.call "_law_made_fits" (.cons (.call "split_pages" (.cons (.loc "shelf") (.o (.loc "indexes")))) (.o (.loc "wanted"))))) (.o (.ret (.bool false))) .nil) (.cons (.set "sizes" (.aC (.bin .sub (.call "_law_draw" (.cons (.loc "pen") (.o (.int 4)))) (.int 1)) (.nm "turn") .aE (.o (.int 2)) X.yes)) (.cons (.set "parts" (.call "cut_into" (.cons (.loc "shelf") (.o (.loc "sizes"))))) (.cons (.set "left" (.aC (.tup (.cons (.int 0) (.cons (.loc "shelf") (.cons (.loc "reference") (.o (.loc "fields")))))) (.tup ["reference","fields"]) .plain (.o (.loc "rows")) X.yes)) (.cons (.set "due" (.list .nil)) (.cons (.bW (.nm "size") .plain (.o (.bin .add (.loc "sizes") (.list (.o (.prim "len" (.o (.loc "rows"))))))) (.cons (.set "many" (.prim "max" (.cons (.loc "size") (.o (.int 0))))) (.cons (.bA (.cmp .ne (.yy (.loc "left") (.loc "many")) (.list .nil)) (.o (.expr (.ay (.loc "due") "append" (.o (.yy (.loc "left") (.loc "many")))))) .nil) (.o (.set "left" (.zH (.loc "left") (.loc "many"))))))) (.cons (.bA (.or (.cmp .ne (.prim "len" (.o (.loc "parts"))) (.prim "len" (.o (.loc "due")))) (.cmp .ne (.aC (.loc "at") (.nm "at") .aE (.o (.prim "len" (.o (.loc "due")))) (X.bN (.not (.call "_law_made_fits" (.cons (.idx (.loc "parts") (.loc "at")) (.o (.idx (.loc "due") (.loc "at")))))) X.yes)) (.list .nil))) (.o (.ret (.bool false))) .nil) (.cons (.bA (.or (.not (.call "_law_raises" (.cons (.loc "shelf") (.o (.list (.cons (.int 0) (.o (.prim "len" (.o (.loc "rows")))))))))) (.not (.call "_law_raises" (.cons (.loc "shelf") (.o (.list (.o (.neg 1)))))))) (.o (.ret (.bool false))) .nil) (.o (.ret (.cmp .eq (.aC (.ay (.loc "shelf") "told" .nil) (.tup ["shelf","rows"]) .plain (.o (.loc "documents")) X.yes) (.loc "kept")))))))))))))))))))))
noncomputable def fq:List (String × List String × SL):=[
 ("Name.__init__",["self","text"],pc),
 ("Stream.__init__",["self","head","octets"],lI),
 ("Reference.__init__",["self","number","generation"],iX),
 ("Reference.pair",["self"],jV),
 ("kind_of",["value"],yN),
 ("told_plain",["kind","value"],qj),
 ("told",["value"],GY),
 ("parts_of",["value"],wF),
 ("references_in",["value"],kL),
 ("renumbered",["value","table"],qn),
 ("Lookup.__init__",["self","table","trailer"],gh),
 ("Lookup.fetch",["self","value"],mY),
 ("Lookup.get",["self","head","key"],qi),
 ("Shelf.put",["self","number","generation","value"],tW),
 ("Shelf.add",["self","value"],tY),
 ("Shelf.numbers",["self"],kS),
 ("Shelf.root",["self"],qo),
 ("Shelf.told",["self"],qG),
 ("Page.__init__",["self","reference","fields"],nL),
 ("Spot.__init__",["self","reference","head","above","inherited","is_page"],oo),
 ("home_of",["shelf","value"],yY),
 ("is_node",["shelf","head"],yb),
 ("kids_of",["shelf","head"],yD),
 ("met",["shelf","value","above","inherited"],KH),
 ("spots",["shelf"],F7),
 ("fields_of",["shelf","spot"],sM),
 ("page_spots",["shelf"],qE),
 ("pages",["shelf"],FJ),
 ("is_there",["shelf","pair"],uX),
 ("plain_trailer",["shelf"],kZ),
 ("walk",["shelf","value"],GR),
 ("reached",["shelf","value"],xT),
 ("unreached",["shelf"],sD),
 ("barred_numbers",["shelf"],kh),
 ("Collector.__init__",["self","shelf","made"],iV),
 ("Collector.reserve",["self","page"],ic),
 ("Collector.take_needed",["self","value"],fM),
 ("Collector.lay",["self","fresh"],lK),
 ("bare_page",["page"],sH),
 ("assembled",["shelves","places"],s7),
 ("merged",["shelves"],BX),
 ("split_pages",["shelf","indexes"],iC),
 ("cut_into",["shelf","sizes"],uC),
 ("_law_pen",["script"],vw),
 ("_law_draw",["pen","many"],si),
 ("_law_fill",["pen","shelf","own","head"],sX),
 ("_law_page",["pen","shelf","own","parent","given","rows"],sO),
 ("_law_node",["pen","shelf","own","parent","given","deep","rows"],s9),
 ("_law_document",["pen"],lq),
 ("_law_unfolded",["shelf","value"],lg),
 ("_law_page_fits",["made","page","shelf","fields","places"],j0),
 ("_law_made_fits",["made","wanted"],j1),
 ("law",["script"],KC)]
noncomputable def eH (Q:KV):KS:=λfl zz H'=>match fl with
 | .ret v=>Q v H'
 | .next=>Q .none H'
 | .brk=>False
 | .cont=>False
noncomputable def vA:AV:= .tup [.str "to",.tup [.str "dict"],.bytes [113,32,81]]
noncomputable def vB:AV:= .tup [.str "to",.tup [.str "dict",.tup [.str "A",.tup [.str "int",.int 1]]],.bytes [102]]
noncomputable def tA:String:="('to', ('dict',), b'q Q')"
noncomputable def tB:String:="('to', ('dict', ('A', ('int', 1))), b'f')"
noncomputable def qV:X:= .cmp .ne (.aC (.loc "index") (.nm "index") .plain (.o (.loc "indexes")) (X.bN (.not (.HJ .le .lt (.int 0) (.loc "index") (.prim "len" (.o (.loc "row"))))) X.yes)) (.list .nil)
structure aQ (G:Nat->aj):Prop where
 fn:∀{k:Nat} {key:String} {ps:List String} {ir:SL} {as:List AV} {H:HP} {Q:KV} {loc:Loc},(key,ps,ir)∈fq->key≠"Lookup.__init__"->d8 ps as Loc.new=some loc->
  ir (G k) loc H (eH Q)->G (k+1) key as H Q
 init:∀{k:Nat} {v:AV} {H:HP} {Q:KV},gh (G k) (((Loc.new.upd "self" v).upd "table" .none).upd "trailer" .none) H (eH Q)->G (k+1) "Lookup.__init__" [v] H Q
 told:∀{k:Nat} {as:List AV} {H:HP} {Q:KV},G k "told" as H Q->G k "told_objects" as H Q
 rA:∀{k:Nat} {H:HP} {Q:KV},Q (.str tA) H->G k "repr" [vA] H Q
 rB:∀{k:Nat} {H:HP} {Q:KV},Q (.str tB) H->G k "repr" [vB] H Q
theorem aQ.run {G:Nat->aj} (m:aQ G) {k:Nat} {as:List AV} {H:HP} {Q:KV} (i:Nat) {e:String × List String × SL} {loc:Loc} (g:fq[i]? =some e) (hn:(e.1=="Lookup.__init__")=false) (hl:d8 e.2.1 as Loc.new=some loc)
  (h:e.2.2 (G k) loc H (eH Q)):G (k+1) e.1 as H Q:=m.fn (aaO g) (λq=>by rw [q] at hn;cases hn) hl h
section
variable {Γ:aj} {loc:Loc} {H:HP} {Q:KV} {QS:KS} {FB:Bool->Prop} {FO:AO->Prop} {FH:HP->Prop}
theorem tT (b:Bool):qg b FB=FB b:=match b with
 | true | false=>rfl
theorem ad {o o':AO} (e:o=o') (h:FO o'):ob o FO:=⟨e▸h⟩
theorem dF {α:Type} {o:Option α} {v:α} {F:α->Prop} (e:o=some v) (h:F v):opt o F:=e▸h
theorem rS {b t:Bool} (e:b=t) (h:FB t):qg b FB:=(tT b).mpr (e▸h)
theorem Rq {b:Bool} (h:FB b):qg b FB:=(tT b).mpr h
theorem MJ {p:Prop} [d:Decidable p] (e:p) (h:FB true):qg (decide p) FB:=rS (decide_eq_true e) h
theorem wtf {p:Prop} [d:Decidable p] (e:¬p) (h:FB false):qg (decide p) FB:=rS (decide_eq_false e) h
theorem Dt {b:Bool} (h1:b=true->FB true) (h2:b=false->FB false):qg b FB:=match b,h1,h2 with
 | true,h1,_=>h1 rfl
 | false,_,h2=>h2 rfl
theorem yO {p:Prop} [d:Decidable p] (h1:p->FB true) (h2:¬p->FB false):qg (decide p) FB:=Dt (λe=>h1 (of_decide_eq_true e)) λe=>h2 (of_decide_eq_false e)
theorem KO {b:Bool} {P:Prop} (e:b=true) (h:P):gd b P:=e▸h
theorem UW {o:Option AV} {v d:AV} {F:AV->Prop} (e:o=some v) (h:F v):CP o d F:=e▸h
theorem ZU {o:Option AV} {d:AV} {F:AV->Prop} (e:o= .none) (h:F d):CP o d F:=e▸h
theorem mG {v:AV} (e:v≠ .unset) (h:Q v H):Da v H Q:=match v,e,h with
 | .unset,e,_=>absurd rfl e
 | .none,_,h | .bool _,_,h | .int _,_,h | .str _,_,h | .bytes _,_,h | .tup _,_,h | .ref _,_,h=>h
theorem ak {x:String} {v:AV} (e:loc x=v) (h:Da v H Q):Da (loc x) H Q:=e▸h
end
inductive L2 {α β:Type} (r:α->β->Prop):List α->List β->Prop
 | nil:L2 r [] []
 | cons {a:α} {b:β} {l:List α} {m:List β}:r a b->L2 r l m->L2 r (a::l) (b::m)
section
variable {α β γ:Type} {r q:α->β->Prop}
theorem L2.imp (f:∀a b,r a b->q a b) {l:List α} {m:List β} (h:L2 r l m):L2 q l m:=h.rec .nil λa zz b=>.cons (f _ _ a) b
theorem L2.inv {a:α} {b:β} {l:List α} {m:List β} (h:L2 r (a::l) (b::m)):r a b/\L2 r l m:=by cases h with | cons x y=>exact ⟨x,y⟩
theorem L2.aX {b:β} {l:List α} {m:List β} (h:L2 r l (b::m)):∃a l',l=a::l'/\r a b/\L2 r l' m:=by cases h with | cons x y=>exact (bH _ _ ⟨rfl,x,y⟩)
theorem L2.df {l:List α} (h:L2 r l []):l=[]:=by cases h;rfl
theorem L2.len {l:List α} {m:List β} (h:L2 r l m):l.length=m.length:=h.rec rfl λzz zz b=>congrArg (· +1) b
theorem L2.append {l l':List α} {m m':List β} (h:L2 r l m) (g:L2 r l' m'):L2 r (l++l') (m++m'):=h.rec g λa zz b=>.cons a b
theorem L2.snoc {l:List α} {m:List β} {a:α} {b:β} (h:L2 r l m) (x:r a b):L2 r (l++[a]) (m++[b]):=h.append (.cons x .nil)
theorem L2.get {l:List α} {m:List β} (h:L2 r l m) {i:Nat} {b:β} (e:m[i]? =some b):∃a,l[i]? =some a/\r a b:=by
 induction h generalizing i with
 | nil=>cases e
 | cons x _ ih=>match i,e with
  | 0,e=>exact ⟨_,rfl,aay e▸x⟩
  | _+1,e=>exact ih e
theorem L2.flip {l:List α} {m:List β} (h:L2 r l m):L2 (λb a=>r a b) m l:=h.rec .nil λa zz b=>.cons a b
theorem L2.Oq {l:List α} {m:List β} (h:L2 r l m) {i:Nat} {a:α} (e:l[i]? =some a):∃b,m[i]? =some b/\r a b:=h.flip.get e
theorem L2.mem {l:List α} {m:List β} (h:L2 r l m) {a:α} (g:a∈l):∃b,b∈m/\r a b:=
 let ⟨_,e⟩:=List.mem_iff_getElem?.mp g
 let ⟨b,e2,x⟩:=h.Oq e
 ⟨b,aaO e2,x⟩
theorem L2.HF {l:List α} {m:List β} (h:L2 r l m) {b:β} (g:b∈m):∃a,a∈l/\r a b:=h.flip.mem g
end
noncomputable def AO.fixed:AO->Bool
 | .inst c _=>!(c=="Shelf")
 | _=>false
structure ai (S:Nat->Prop) (H H':HP):Prop where
 le:H.n<=H'.n
 same:∀a,a < H.n->¬S a->H'.g a=H.g a/\H'.t a=H.t a
 inst:∀a o,a < H.n->H.g a=o->o.fixed=true->H'.g a=o
noncomputable def aJ:Nat->Prop:=λzz=>False
noncomputable def atS (a:Nat):Nat->Prop:=λx=>x=a
section
variable {S S':Nat->Prop} {H H' bz:HP} {o o':AO} {a b:Nat}
theorem pU (h:a≠b):Nat.beq a b=false:=Bool.eq_false_iff.mpr λq=>h (Nat.eq_of_beq_eq_true q)
theorem iz:Nat.beq a a=true:=Nat.beq_refl a
theorem UJ:(H.push o).n=H.n+1:=rfl
theorem dq:(H.push o).g H.n=o:=by show (bif _ then _ else _)=_;rw [iz];rfl
theorem nA (h:a < H.n):(H.push o).g a=H.g a:=by show (bif _ then _ else _)=_;rw [pU (aaJ h)];rfl
theorem bp:(H.set a o).g a=o:=by show (bif _ then _ else _)=_;rw [iz];rfl
theorem ey (h:b≠a):(H.set a o).g b=H.g b:=by show (bif _ then _ else _)=_;rw [pU h];rfl
theorem D7 (h:b≠a):(H.set a o).t b=H.t b:=by show (bif _ then _ else _)=_;rw [pU h];rfl
theorem ai.refl:ai S H H:=⟨aaF _,λzz zz zz=>⟨rfl,rfl⟩,λzz zz zz e zz=>e⟩
theorem ai.trans (x:ai S H H') (y:ai S' H' bz) (hs:∀a,a < H.n->S' a->S a):ai S H bz:=
 ⟨aaw x.le y.le,λa ha hn=>
  have h1:=x.same a ha hn
  have h2:=y.same a (aax ha x.le) λq=>hn (hs a ha q)
  ⟨h2.1.trans h1.1,h2.2.trans h1.2⟩,λa o ha e hc=>y.inst a o (aax ha x.le) (x.inst a o ha e hc) hc⟩
theorem ai.tr (x:ai S H H') (y:ai S H' bz):ai S H bz:=x.trans y λzz zz q=>q
theorem ai.tn (x:ai S H H') (y:ai aJ H' bz):ai S H bz:=x.trans y λzz zz q=>q.elim
theorem ai.weak (x:ai S H H') (hs:∀a,a < H.n->S a->S' a):ai S' H H':=⟨x.le,λa ha hn=>x.same a ha λq=>hn (hs a ha q),x.inst⟩
theorem ai.no (x:ai aJ H H'):ai S H H':=x.weak λzz zz q=>q.elim
theorem ai.lt (x:ai S H H') (h:a < H.n):a < H'.n:=aax h x.le
theorem ai.at (x:ai S H H') (h:a < H.n) (hn:¬S a) (e:H.g a=o):H'.g a=o:=(x.same a h hn).1.trans e
theorem ai.fix (x:ai S H H') (h:a < H.n) (e:H.g a=o) (hc:o.fixed=true):H'.g a=o:=x.inst a o h e hc
theorem ai.ne (x:ai (atS b) H H') (h:a < H.n) (e:H.g a=o) (n:a≠b):H'.g a=o:=x.at h n e
theorem ai.keep (x:ai aJ H H') (h:a < H.n) (e:H.g a=o):H'.g a=o:=x.at h id e
theorem ai.push:ai S H (H.push o):=⟨aba _,λzz ha zz=>⟨nA ha,rfl⟩,λzz zz ha e zz=>(nA ha).trans e⟩
theorem ai.set (e:H.g a=o') (hf:o'.fixed=false):ai (atS a) H (H.set a o):=
 ⟨aaF _,λzz zz hn=>⟨ey hn,D7 hn⟩,λb x hb e' hc=>(ey λq=>by rw [q,e] at e';rw [e',hc] at hf;cases hf).trans e'⟩
end
section
variable {H:HP} {Q:KV} {F:HP->Prop} {o o':AO} {a:Nat}
theorem cN (k:∀H',ai aJ H H'->H'.n=H.n+1->H'.g H.n=o->Q (.ref H.n) H'):nw o H Q:=⟨k _ .push rfl dq⟩
theorem ng (e:H.g a=o') (k:∀H',ai (atS a) H H'->H'.n=H.n->H'.g a=o->F H') (hf:o'.fixed=false:=by exact rfl):upd a o H F:=⟨k _ (.set e hf) rfl bp⟩
end
inductive At where
 | none | int (i:Int) | name (s:String) | ref (n:Int)
inductive Va where
 | at (a:At) | arr (xs:List At)
noncomputable abbrev Di:=List (String × Va)
inductive Ob where
 | null | dict (d:Di) | stream (d:Di) (b:List UInt8)
noncomputable def Ay (s:String):AO:= .inst "Name" [("text",.str s)]
noncomputable def cH (n:Int):AO:= .inst "Reference" [("number",.int n),("generation",.int 0)]
noncomputable def iy (t:Nat) (r:AV):AO:= .inst "Shelf" [("table",.ref t),("trailer",r)]
noncomputable def nF (h:Nat) (b:List UInt8):AO:= .inst "Stream" [("head",.ref h),("octets",.bytes b)]
noncomputable def jJ (H:HP) (v:AV) (o:AO):Prop:=∃a,v= .ref a/\a < H.n/\H.g a=o
noncomputable def RA (H:HP) (v:AV):At->Prop
 | .none=>v= .none
 | .int i=>v= .int i
 | .name s=>jJ H v (Ay s)
 | .ref n=>jJ H v (cH n)
noncomputable def Lu (P:Nat->Prop) (H:HP) (v:AV) (r:List AV->Prop):Prop:=∃a vs,v= .ref a/\(a < H.n/\P a)/\H.g a= .list vs/\r vs
noncomputable def RV (P:Nat->Prop) (H:HP) (v:AV):Va->Prop
 | .at a=>RA H v a
 | .arr xs=>Lu P H v λvs=>L2 (RA H) vs xs
noncomputable def RE (P:Nat->Prop) (H:HP) (e:AV × AV) (x:String × Va):Prop:=e.1= .str x.1/\RV P H e.2 x.2
structure RD (P:Nat->Prop) (H:HP) (a:Nat) (d:Di):Prop where
 lt:a < H.n
 zone:P a
 ex:∃es,H.g a= .dict es/\L2 (RE P H) es d
 nd:(d.map (·.1)).Nodup
noncomputable def RO (P:Nat->Prop) (H:HP) (v:AV):Ob->Prop
 | .null=>v= .none
 | .dict d=>∃a,v= .ref a/\RD P H a d
 | .stream d b=>∃a h,v= .ref a/\(a < H.n/\H.g a=nF h b)/\RD P H h d
noncomputable def RT (P:Nat->Prop) (H:HP) (e:AV × AV) (x:Int × Ob):Prop:=e.1= .int x.1/\∃u,e.2= .tup [.int 0,u]/\RO P H u x.2
structure RS (P:Nat->Prop) (H:HP) (a t:Nat) (tab:List (Int × Ob)) (tr:Di):Prop where
 lt:a < H.n
 lX:t < H.n
 ins:∃r,H.g a=iy t (.ref r)/\RD P H r tr
 tb:∃es,H.g t= .dict es/\L2 (RT P H) es tab
 num:tab.map (·.1)=(List.range tab.length).map λ(i:Nat)=>(i:Int)+1
 len:tab.length < 64
section
variable {P P' S:Nat->Prop} {H H':HP}
theorem jJ.mono (f:ai S H H') {v:AV} {o:AO} (hc:o.fixed=true) (r:jJ H v o):jJ H' v o:=r.imp λzz r=>⟨r.1,f.lt r.2.1,f.fix r.2.1 r.2.2 hc⟩
theorem RA.mono (f:ai S H H') {v:AV}:∀{x:At},RA H v x->RA H' v x
 | .none,r | .int _,r=>r
 | .name _,r | .ref _,r=>jJ.mono f rfl r
noncomputable abbrev cX (S P P':Nat->Prop) (H:HP):Prop:=∀a,a < H.n->P a->¬S a/\P' a
theorem RV.mono (f:ai S H H') (hp:cX S P P' H) {v:AV}:∀{x:Va},RV P H v x->RV P' H' v x
 | .at _,r=>RA.mono f r
 | .arr _,⟨a,vs,e,z,g,l⟩=>(bH a vs ⟨e,⟨f.lt z.1,(hp a z.1 z.2).2⟩,f.at z.1 (hp a z.1 z.2).1 g,l.imp λzz zz r=>r.mono f⟩)
theorem RE.mono (f:ai S H H') (hp:cX S P P' H) {v:AV × AV} {x:String × Va} (r:RE P H v x):RE P' H' v x:=⟨r.1,r.2.mono f hp⟩
theorem RD.mono (f:ai S H H') (hp:cX S P P' H) {a:Nat} {d:Di} (r:RD P H a d):RD P' H' a d:=
 have z:=hp a r.lt r.zone
 ⟨f.lt r.lt,z.2,r.ex.imp λzz e=>⟨f.at r.lt z.1 e.1,e.2.imp λzz zz q=>q.mono f hp⟩,r.nd⟩
theorem RO.mono (f:ai S H H') (hp:cX S P P' H) {v:AV}:∀{x:Ob},RO P H v x->RO P' H' v x
 | .null,r=>r
 | .dict _,r=>r.imp λzz r=>⟨r.1,r.2.mono f hp⟩
 | .stream _ _,⟨a,h,e,g,r⟩=>(bH a h ⟨e,⟨f.lt g.1,f.fix g.1 g.2 rfl⟩,r.mono f hp⟩)
theorem RT.mono (f:ai S H H') (hp:cX S P P' H) {v:AV × AV} {x:Int × Ob} (r:RT P H v x):RT P' H' v x:=⟨r.1,r.2.imp λzz q=>⟨q.1,q.2.mono f hp⟩⟩
theorem RS.mono (f:ai S H H') (hp:cX S P P' H) {a t:Nat} {tab:List (Int × Ob)} {tr:Di} (ha:¬S a) (ht:¬S t) (r:RS P H a t tab tr):RS P' H' a t tab tr:=
 ⟨f.lt r.lt,f.lt r.lX,r.ins.imp λzz e=>⟨f.at r.lt ha e.1,e.2.mono f hp⟩,r.tb.imp λzz e=>⟨f.at r.lX ht e.1,e.2.imp λzz zz q=>q.mono f hp⟩,r.num,r.len⟩
theorem aV:cX aJ P P H:=λzz zz h=>⟨id,h⟩
theorem RV.mn (f:ai aJ H H') {v:AV} {x:Va} (r:RV P H v x):RV P H' v x:=r.mono f aV
theorem RD.mn (f:ai aJ H H') {a:Nat} {d:Di} (r:RD P H a d):RD P H' a d:=r.mono f aV
theorem RO.mn (f:ai aJ H H') {v:AV} {x:Ob} (r:RO P H v x):RO P H' v x:=r.mono f aV
theorem RS.mn (f:ai aJ H H') {a t:Nat} {tab:List (Int × Ob)} {tr:Di} (r:RS P H a t tab tr):RS P H' a t tab tr:=r.mono f aV id id
noncomputable def look (k:String):Di->Option Va
 | []=>.none
 | e::r=>bif e.1==k then some e.2 else look k r
noncomputable def ah (n:Int):List (Int × Ob)->Option Ob
 | []=>.none
 | e::r=>bif decide (e.1=n) then some e.2 else ah n r
theorem aY {k:String} {v:Va} {r:Di}:look k ((k,v)::r)=some v:=by show (bif _ then _ else _)=_;rw [beq_self_eq_true];rfl
theorem aL {k j:String} {v:Va} {r:Di} (h:j≠k):look k ((j,v)::r)=look k r:=by show (bif _ then _ else _)=_;rw [beq_eq_false_iff_ne.mpr h];rfl
noncomputable def mV {α β:Type} (r:α->β->Prop) (x:Option α) (y:Option β):Prop:=match y with
 | .none=>x= .none
 | some b=>∃a,x=some a/\r a b
theorem fU {k:String} {es:List (AV × AV)} {d:Di} (h:L2 (RE P H) es d):mV (RV P H) (getD (.str k) es) (look k d):=h.rec rfl λ{e x zz zz} r zz ih=>by
 show mV _ (bif i8 e.1 _ then _ else _) (bif _ then _ else _)
 rw [r.1]
 show mV _ (bif decide (x.1=k) then _ else _) (bif decide (x.1=k) then _ else _)
 exact match decide (x.1=k) with
  | true=>⟨_,rfl,r.2⟩
  | false=>ih
theorem gG {n:Int} {es:List (AV × AV)} {d:List (Int × Ob)} (h:L2 (RT P H) es d):mV (λv ob=>∃u,v= .tup [.int 0,u]/\RO P H u ob) (getD (.int n) es) (ah n d):=h.rec rfl λ{e x zz zz} r zz ih=>by
 show mV _ (bif i8 e.1 _ then _ else _) (bif _ then _ else _)
 rw [r.1]
 show mV _ (bif decide (x.1=n) then _ else _) (bif decide (x.1=n) then _ else _)
 exact match decide (x.1=n) with
  | true=>⟨_,rfl,r.2⟩
  | false=>ih
theorem dy {k:String} {es:List (AV × AV)} {d:Di} (h:L2 (RE P H) es d):bB (.str k) es:=⟨Nat.one_ne_zero,λzz he=>let ⟨_,_,r⟩:=h.mem he;r.1▸rfl⟩
theorem fi {n:Int} {es:List (AV × AV)} {d:List (Int × Ob)} (h:L2 (RT P H) es d):bB (.int n) es:=⟨abC 1,λzz he=>let ⟨_,_,r⟩:=h.mem he;r.1▸rfl⟩
end
section
variable {G:Nat->aj} {H:HP} {Q:KV} {k:Nat} {P:Nat->Prop} {a:Nat}
theorem lE (m:aQ G) (h:Q (.str "null") H):G (k+1) "kind_of" [.none] H Q:=m.run 4 rfl rfl rfl h
theorem pX (m:aQ G) {i:Int} (h:Q (.str "int") H):G (k+1) "kind_of" [.int i] H Q:=m.run 4 rfl rfl rfl h
theorem lJ (m:aQ G) {xs:List AV} (e:H.g a= .list xs) (h:Q (.str "array") H):G (k+1) "kind_of" [.ref a] H Q:=by
 refine m.run 4 rfl rfl rfl ?_
 exact ad e (ad e (ad e (ad e (ad e (ad e h)))))
theorem lm (m:aQ G) {xs:List (AV × AV)} (e:H.g a= .dict xs) (h:Q (.str "dict") H):G (k+1) "kind_of" [.ref a] H Q:=by
 refine m.run 4 rfl rfl rfl ?_
 exact ad e (ad e (ad e (ad e (ad e (ad e (ad e h))))))
theorem lj (m:aQ G) {s:String} (e:H.g a=Ay s) (h:Q (.str "name") H):G (k+1) "kind_of" [.ref a] H Q:=by
 refine m.run 4 rfl rfl rfl ?_
 exact ad e (ad e (ad e (ad e h)))
theorem g7 (m:aQ G) {hd:Nat} {b:List UInt8} (e:H.g a=nF hd b) (h:Q (.str "stream") H):G (k+1) "kind_of" [.ref a] H Q:=by
 refine m.run 4 rfl rfl rfl ?_
 exact ad e (ad e (ad e (ad e (ad e (ad e (ad e (ad e h)))))))
theorem vR (m:aQ G) {n:Int} (e:H.g a=cH n) (h:Q (.str "ref") H):G (k+1) "kind_of" [.ref a] H Q:=by
 refine m.run 4 rfl rfl rfl ?_
 exact ad e (ad e (ad e (ad e (ad e (ad e (ad e (ad e (ad e h))))))))
theorem RA.set {v:AV} {x:At} (r:RA H v x):v≠ .unset:=λq=>by
 subst q
 cases x with
 | none=>cases r
 | int=>cases r
 | name=>exact r.elim λzz r=>nomatch r.1
 | ref=>exact r.elim λzz r=>nomatch r.1
theorem RV.set {v:AV} {x:Va} (r:RV P H v x):v≠ .unset:=λq=>by
 cases x with
 | «at»=>exact RA.set r q
 | arr=>exact aq r λzz zz r=>nomatch q.symm.trans r.1
theorem mV.some {α β:Type} {r:α->β->Prop} {x:Option α} {y:Option β} {b:β} (h:mV r x y) (e:y=some b):∃a,x=some a/\r a b:=by rw [e] at h;exact h
theorem mV.none {α β:Type} {r:α->β->Prop} {x:Option α} {y:Option β} (h:mV r x y) (e:y= .none):x= .none:=by rw [e] at h;exact h
theorem mV.isSome {α β:Type} {r:α->β->Prop} {x:Option α} {y:Option β} (h:mV r x y):x.isSome=y.isSome:=by
 cases y with
 | none=>rw [h.none rfl];rfl
 | some b=>exact h.elim λzz q=>q.1▸rfl
theorem RD.at {d:Di} (rd:RD P H a d) {FO:AO->Prop} (k:∀es,H.g a= .dict es->L2 (RE P H) es d->FO (.dict es)):ob (H.g a) FO:=rd.ex.elim λes e=>ad e.1 (k es e.1 e.2)
theorem RD.idx {d:Di} (rd:RD P H a d) {key:String} {va:Va} (hl:look key d=some va) {F:AV->Prop} (k:∀u,RV P H u va->F u):ob (H.g a) (GN (.str key) F):=
 rd.at λzz zz l=>⟨dy l,((fU l).some hl).elim λu q=>dF q.1 (k u q.2)⟩
theorem RD.isin {d:Di} (rd:RD P H a d) {key:String} {F:Bool->Prop} (k:F (look key d).isSome):ob (H.g a) (in1 (.str key) F):=
 rd.at λzz zz l=>⟨dy l,rS (fU l).isSome k⟩
theorem RD.TJ {d:Di} (rd:RD P H a d) {key:String} (hl:look key d= .none) (k:Q .none H):Kk a "get" Q [.str key] H:=
 rd.at λzz zz l=>⟨dy l,ZU ((fU l).none hl) k⟩
theorem RD.Hx {d:Di} (rd:RD P H a d) {key:String} {va:Va} (hl:look key d=some va) (k:∀u,RV P H u va->Q u H):Kk a "get" Q [.str key] H:=
 rd.at λzz zz l=>⟨dy l,((fU l).some hl).elim λu q=>UW q.1 (k u q.2)⟩
theorem cQ (m:aQ G) {n:Int} (e:H.g a=cH n) (h:Q (.tup [.int n,.int 0]) H):G (k+1) "Reference.pair" [.ref a] H Q:=m.run 3 rfl rfl rfl (ad e (ad e h))
structure ez (H:HP) (v:AV):Prop where
 set:v≠ .unset
 isin:∀F:Bool->Prop,F false->Fz v "Reference" H F
theorem ez.none:ez H .none:=⟨nofun,λzz h=>h⟩
theorem ez.int {i:Int}:ez H (.int i):=⟨nofun,λzz h=>h⟩
theorem ez.list {xs:List AV} (e:H.g a= .list xs):ez H (.ref a):=⟨nofun,λzz h=>ad e h⟩
theorem ez.dict {xs:List (AV × AV)} (e:H.g a= .dict xs):ez H (.ref a):=⟨nofun,λzz h=>ad e h⟩
theorem ez.stream {hd:Nat} {b:List UInt8} (e:H.g a=nF hd b):ez H (.ref a):=⟨nofun,λzz h=>ad e h⟩
theorem ez.name {s:String} (e:H.g a=Ay s):ez H (.ref a):=⟨nofun,λzz h=>ad e h⟩
theorem RO.noRef {v:AV}:∀{ob:Ob},RO P H v ob->ez H v
 | .null,r=>r▸ .none
 | .dict _,r=>r.elim λzz r=>r.1▸r.2.ex.elim λzz e=>.dict e.1
 | .stream _ _,r=>aq r λzz zz r=>r.1▸ .stream r.2.1.2
noncomputable def Va.isRef:Va->Bool
 | .at (.ref _)=>true
 | _=>false
theorem RV.noRef {v:AV}:∀{x:Va},RV P H v x->x.isRef=false->ez H v:=by
 intro x r h
 cases x with
 | «at» a=>cases a with
  | none=>exact Eq.symm r▸ .none
  | int _=>exact Eq.symm r▸ .int
  | name _=>exact r.elim λzz r=>r.1▸ .name r.2.2
  | ref _=>exact (aaE h.symm).elim
 | arr _=>exact aq r λzz zz r=>r.1▸ .list r.2.2.1
theorem i6 (m:aQ G) {s v:AV} (n:ez H v) (h:Q v H):G (k+1) "Lookup.fetch" [s,v] H Q:=by
 refine m.run 11 rfl rfl rfl (mG n.set ?_)
 exact mG n.set (n.isin _ (mG n.set h))
theorem hO (m:aQ G) {s t:Nat} {tab:List (Int × Ob)} {tr:Di} {n:Int} {o:Ob} (rs:RS P H s t tab tr) (ha:H.g a=cH n) (hl:ah n tab=some o) (h:∀u,RO P H u o->Q u H):G (k+1) "Lookup.fetch" [.ref s,.ref a] H Q:=by
 refine rs.ins.elim λr e1=>rs.tb.elim λes e2=>((gG e2.2).some hl).elim λv q=>q.2.elim λu w=>?_
 have nr:=w.2.noRef
 refine m.run 11 rfl rfl rfl (ad ha (ad e1.1 (ad e2.1 (ad ha (ad e2.1 ⟨fi e2.2,UW (q.1.trans (congrArg some w.1)) ?_⟩)))))
 exact ad ha (mG nr.set ⟨⟨rfl,rfl⟩,mG nr.set (nr.isin _ (mG nr.set (h u w.2)))⟩)
end
theorem L2.wm {α β:Type} {r:α->β->Prop} {l:List α} {m:List β} (h:L2 r l m):L2 (λa b=>r a b/\b∈m) l m:=h.rec .nil λa zz b=>.cons ⟨a,.head _⟩ (b.imp λzz zz q=>⟨q.1,.tail _ q.2⟩)
theorem L2.map_eq {α β γ:Type} {f:α->γ} {g:β->γ} {r:α->β->Prop} (SI:∀a b,r a b->f a=g b) {l:List α} {m:List β} (h:L2 r l m):l.map f=m.map g:=h.rec rfl λa zz b=>congr (congrArg List.cons (SI _ _ a)) b
theorem L2.xq {α β γ:Type} {r:α->γ->Prop} {f:β->γ} {l:List α} {m:List β} (h:L2 (λa b=>r a (f b)) l m):L2 r l (m.map f):=h.rec .nil λa zz b=>.cons a b
theorem L2.mJ {α β γ:Type} {r:γ->β->Prop} {f:α->γ} {l:List α} {m:List β} (h:L2 (λa b=>r (f a) b) l m):L2 r (l.map f) m:=h.rec .nil λa zz b=>.cons a b
theorem L2.rev {α β:Type} {r:α->β->Prop} {l:List α} {m:List β} (h:L2 r l m):L2 r l.reverse m.reverse:=h.rec .nil λa zz b=>by rw [List.reverse_cons,List.reverse_cons];exact b.snoc a
theorem L2.diag {α:Type} {r:α->α->Prop}:∀{l:List α},(∀x∈l,r x x)->L2 r l l
 | [],_=>.nil
 | _::_,h=>.cons (h _ (.head _)) (L2.diag λy hy=>h y (.tail _ hy))
section
variable {G:Nat->aj} {H H0:HP} {Q:KV} {QL:KL} {k a:Nat} {P S:Nat->Prop} {loc:Loc} {elt:PX} {cs:PC} {tg:Tg} {src:HP->Prop}
noncomputable abbrev Gq (elt:PX) (cs:PC) (tg:Tg) (loc:Loc) (v:AV) (H:HP) (C:KV) (N:HP->Prop):Prop:=opt (gj tg v loc) (Xf elt cs C N H)
theorem k7 (I:List AV->List AV->HP->Prop) (step:∀v vs acc H (C:KV) (N:HP->Prop),I (v::vs) acc H->(∀x H',src H'->acc.length < lim->I vs (acc++[x]) H'->C x H')->(∀H',src H'->I vs acc H'->N H')->Gq elt cs tg loc v H C N) (vs:List AV):
  ∀acc H,I vs acc H->(∀acc H,I [] acc H->QL acc H)->iZ elt cs tg src loc vs H acc QL:=by
 induction vs with
 | nil=>exact λacc H h hQ=>hQ acc H h
 | cons v vs ih=>exact λacc H h hQ=>step v vs acc H _ _ h (λx H' s l h'=>⟨s,l,ih _ _ h' hQ⟩) λH' s h'=>⟨s,ih _ _ h' hQ⟩
theorem BN {β:Type} {r:AV->β->Prop} (f:β->AV) (p:β->Bool) {vs:List AV} {ws:List β} (DI:∀H',ai S H0 H'->src H')
  (step:∀v w H' (C:KV) (N:HP->Prop),r v w->ai S H0 H'->(p w=true->∀bz,ai S H0 bz->C (f w) bz)->(p w=false->∀bz,ai S H0 bz->N bz)->Gq elt cs tg loc v H' C N)
  (hr:L2 r vs ws):∀acc H,acc.length+vs.length<=lim->ai S H0 H->(∀H',ai S H0 H'->QL (acc++(ws.filter p).map f) H')->iZ elt cs tg src loc vs H acc QL:=by
 induction hr with
 | nil=>exact λacc H zz hf hQ=>(aaY acc).subst (motive:=λx=>QL x H) (hQ H hf)
 | cons rv _ ih=>
  exact λacc H hl hf hQ=>step _ _ H _ _ rv hf
   (λe bz I5=>⟨DI _ I5,aax (abl (Nat.succ_pos _)) hl,ih _ _ (by rw [aaD,aa9,abg (List.length [_])];exact hl) I5 λH3 f3=>by have:=hQ H3 f3;rwa [List.filter_cons_of_pos e,aa4,List.append_cons] at this⟩)
   λe bz I5=>⟨DI _ I5,ih _ _ (Nat.le_of_succ_le hl) I5 λH3 f3=>by have:=hQ H3 f3;rwa [List.filter_cons_of_neg ((e)▸aaE)] at this⟩
theorem rQ {α:Type} (l:List α):l.filter (λzz=>true)=l:=List.filter_eq_self.mpr λzz zz=>rfl
noncomputable def TU (a:Nat) (xs:List AV) (H:HP):HP->Prop:=ck (.obj a) xs ((Src.obj a).gW H)
theorem bC {H':HP} {n:Nat} {all:List AV} (f:ai S H H') (ha:a < H.n) (hs:¬S a) (h:ck (.obj a) all n H):ck (.obj a) all n H':=by
 have q:=f.same a ha hs
 show eX _=_/\jk _ _=_
 rw [q.1,q.2];exact h
noncomputable abbrev pK (Q:KV) (H:HP) (S:Nat->Prop) (xs:List AV):Prop:=∀H' a',ai S H H'->H.n<=a'->a' < H'.n->H'.g a'= .list xs->Q (.ref a') H'
theorem IG {xs:List AV} (h:pK Q H S xs) {H':HP} (f:ai S H H'):LW Q xs H':=cN λH2 f2 n2 e2=>h H2 _ (f.tn f2) f.le (by rw [n2];exact aaC _) e2
theorem eJ {β:Type} {r:AV->β->Prop} {xs:List AV} {ws:List β} (e:eX (H.g a)=some xs) (la:a < H.n) (f:β->AV) (p:β->Bool) (hr:L2 r xs ws) (hl:xs.length<=lim)
  (step:∀v w H' (C:KV) (N:HP->Prop),r v w->ai aJ H H'->(p w=true->∀bz,ai aJ H bz->C (f w) bz)->(p w=false->∀bz,ai aJ H bz->N bz)->Gq elt cs tg loc v H' C N)
  (h:pK Q H aJ ((ws.filter p).map f)):eV elt tg .plain cs loc Q [.ref a] H:=
 dF e (BN f p (λH' f'=>bC f' la id ⟨e,rfl⟩) step hr [] H (by rwa [List.length_nil,abE]) .refl λH' f'=>IG h f')
theorem dX {β:Type} {r:AV->β->Prop} {xs:List AV} {ws:List β} (e:eX (H.g a)=some xs) (la:a < H.n) (f:β->AV) (hr:L2 r xs ws) (hl:xs.length<=lim)
  (step:∀v w H' (C:KV) (N:HP->Prop),r v w->ai aJ H H'->(∀bz,ai aJ H bz->C (f w) bz)->Gq elt cs tg loc v H' C N)
  (h:pK Q H aJ (ws.map f)):eV elt tg .plain cs loc Q [.ref a] H:=
 eJ e la f (λzz=>true) hr hl (λv w H' C N rv f' y zz=>step v w H' C N rv f' (y rfl)) (by rwa [rQ])
theorem aH {xs:List AV} (e:H.g a= .list xs):eX (H.g a)=some xs:=e▸rfl
noncomputable def WU (C:KS) (src:HP->Prop) (I:List AV->Loc->HP->Prop) (vs:List AV):Prop:=∀loc' H',src H'->I vs loc' H'->C .next loc' H'
noncomputable def Te (C QS:KS):Prop:=∀v loc' H',QS (.ret v) loc' H'->C (.ret v) loc' H'
theorem PU {body:PS} {QS:KS} (I:List AV->Loc->HP->Prop) (step:∀v vs loc H (C:KS),I (v::vs) loc H->WU C src I vs->Te C QS->opt (gj tg v loc) (MI body H C)) (vs:List AV):
  ∀loc H,I vs loc H->(∀loc H,I [] loc H->QS .next loc H)->k9 body tg src vs loc H QS:=by
 induction vs with
 | nil=>exact λloc H h hQ=>hQ loc H h
 | cons v vs ih=>exact λloc H h hQ=>step v vs loc H _ h (λloc' H' s h'=>⟨s,ih _ _ h' hQ⟩) λzz zz zz q=>q
theorem Et {body:PS} {QS:KS} (I:List AV->Loc->HP->Prop) (step:∀v vs loc H (C:KS),I (v::vs) loc H->WU C src I vs->opt (gj tg v loc) (MI body H C)) (vs:List AV) (loc:Loc) (H:HP) (h:I vs loc H) (hQ:∀loc H,I [] loc H->QS .next loc H):k9 body tg src vs loc H QS:=
 PU I (λv vs loc H C h n zz=>step v vs loc H C h n) vs loc H h hQ
theorem Mt {α σ:Type} {body:PS} {QS:KS} (enc:α->AV) (J:σ->Loc->HP->Prop) (F:σ->α->σ) (hs:∀{st loc H},J st loc H->src H) (l:List α) (step:∀a,a∈l->∀st loc H (C:KS),J st loc H->(∀loc' H',J (F st a) loc' H'->C .next loc' H')->opt (gj tg (enc a) loc) (MI body H C)):
  ∀{st:σ} {loc:Loc} {H:HP},J st loc H->(∀loc' H',J (l.foldl F st) loc' H'->QS .next loc' H')->∀{vs:List AV},vs=l.map enc->k9 body tg src vs loc H QS:=by
 induction l with
 | nil=>exact λj hQ vs e=>e▸hQ _ _ j
 | cons a l ih=>exact λj hQ vs e=>e▸step a (.head _) _ _ _ _ j λloc' H' j'=>⟨hs j',ih (λb hb=>step b (.tail _ hb)) j' hQ rfl⟩
noncomputable def oO:At->AV
 | .none=>.tup [.str "null"]
 | .int i=>.tup [.str "int",.int i]
 | .name s=>.tup [.str "name",.str s]
 | .ref n=>.tup [.str "ref",.int n,.int 0]
noncomputable def mB:Va->AV
 | .at a=>oO a
 | .arr xs=>.tup (.str "array"::xs.map oO)
noncomputable def Jz (v:AV):String:=match v with
 | .str s=>s
 | _=>""
noncomputable def Ag (d:Di) (key:AV):AV:= .tup [key,((look (Jz key) d).map mB).getD .none]
noncomputable def bI (d:Di):List AV:=d.map λx=>.str x.1
noncomputable def md (d:Di):AV:= .tup (.str "dict"::(bt (bI d)).map (Ag d))
noncomputable def qO:Ob->AV
 | .null=>.tup [.str "null"]
 | .dict d=>md d
 | .stream d b=>.tup [.str "stream",md d,.bytes b]
theorem hG (m:aQ G) {v:AV} {x:At} (r:RA H v x) (h:Q (oO x) H):G (k+2) "told" [v] H Q:=by
 cases x with
 | none=>subst r;exact m.run 6 rfl rfl rfl (lE m (m.run 5 rfl rfl rfl h))
 | int i=>subst r;exact m.run 6 rfl rfl rfl (pX m (m.run 5 rfl rfl rfl h))
 | name s=>exact r.elim λa r=>r.1▸m.run 6 rfl rfl rfl (lj m r.2.2 (m.run 5 rfl rfl rfl (ad r.2.2 h)))
 | ref n=>exact r.elim λa r=>r.1▸m.run 6 rfl rfl rfl (vR m r.2.2 (m.run 5 rfl rfl rfl (ad r.2.2 (ad r.2.2 h))))
noncomputable def yI:Va->Prop
 | .at _=>True
 | .arr xs=>xs.length < 1000
theorem ii {n:Nat} (h:n < 1000):n < lim:=aaA h (by decide)
theorem vZ (m:aQ G) {v:AV} {x:Va} (r:RV P H v x) (hl:yI x) (h:∀H',ai aJ H H'->Q (mB x) H'):G (k+3) "told" [v] H Q:=by
 cases x with
 | «at» x=>exact hG m r (h H .refl)
 | arr xs=>
  refine aq r λa vs r=>r.1▸m.run 6 rfl rfl rfl (lJ m r.2.2.1 ?_)
  have ll:vs.length < lim:=r.2.2.2.len▸ii hl
  refine dX (aH r.2.2.1) r.2.1.1 oO r.2.2.2 (aaI ll) (λv w H' C N rv f y=>mG rv.set (m.told (hG m (rv.mono f) (y _ f)))) λH' a' f zz zz e=>?_
  exact ad e ⟨by rw [aaB,<-r.2.2.2.len,abg];exact ll,h _ f⟩
theorem uz {x y:AV}:∀{l:List AV},x∈w9 y l ↔ x=y\/x∈l
 | []=>aaH
 | z::l=>by
  show x∈(bif _ then _ else _) ↔ _
  cases qc z y with
  | true=>show x∈z::_ ↔ _;rw [aaH,uz,aaH];exact or_left_comm
  | false=>exact aaH
theorem bP {x:AV}:∀{xs:List AV},x∈bt xs ↔ x∈xs
 | []=>.rfl
 | y::r=>by rw [aaH,<-bP (xs:=r)];exact uz
theorem uR {y:AV}:∀{l:List AV},(w9 y l).length=l.length+1
 | []=>rfl
 | z::l=>by
  show (bif _ then _ else _:List AV).length=_
  cases qc z y with
  | true=>exact congrArg (· +1) uR
  | false=>rfl
theorem dw:∀{xs:List AV},(bt xs).length=xs.length
 | []=>rfl
 | y::r=>uR.trans (congrArg (· +1) dw)
theorem jU {es:List (AV × AV)} {d:Di} (l:L2 (RE P H) es d):es.map (·.1)=bI d:=l.map_eq λzz zz r=>r.1
theorem ku {key:String} {v:Va}:∀{d:Di},(key,v)∈d->∃v,look key d=some v
 | e::r,h=>by
  show ∃v,(bif _ then _ else _)=_
  rcases aaH.mp h with q | q
  .subst q;rw [beq_self_eq_true];exact ⟨_,rfl⟩
  .cases e.1==key with
   | true=>exact ⟨_,rfl⟩
   | false=>exact ku q
theorem cA {key:String} {v:Va}:∀{d:Di},look key d=some v->(key,v)∈d
 | (j,w)::r,h=>by
  have h:(bif j==key then some w else look key r)=some v:=h
  cases q:j==key with
  | true=>rw [q] at h;obtain rfl:=aay h;obtain rfl:=eq_of_beq q;exact .head _
  | false=>rw [q] at h;exact .tail _ (cA h)
theorem dD {d:Di} {x:AV} (h:x∈bI d):∃s va,x= .str s/\look s d=some va:=(aaG.mp h).elim λy q=>(ku (key:=y.1) (v:=y.2) q.1).imp' (λzz=>y.1) λva e=>⟨va,q.2.symm,e⟩
theorem Ib (d:Di):(bI d).all AV.oP=true:=aaX.mpr λx h=>(aaG.mp h).elim λy q=>q.2▸rfl
theorem RD.sorted {d:Di} (rd:RD P H a d) (hl:d.length < 64) (h:pK Q H aJ (bt (bI d))):jQ (.ref a) H Q:=
 rd.at λes zz l=>by
  show we (es.map (·.1)) H Q
  rw [jU l]
  exact ⟨.inr (Ib d),by rw [bI,aaB];exact hl,IG h .refl⟩
noncomputable def eI (d:Di):Prop:=d.length < 64/\∀x∈d,x.2≠ .at .none/\yI x.2
theorem RV.bJ {v:AV} {x:Va} (r:RV P H v x) (h:x≠ .at .none):v.isNone=false:=by
 cases x with
 | «at» x=>cases x with
  | none=>exact absurd rfl h
  | int=>subst r;rfl
  | name=>exact r.elim λzz r=>r.1▸rfl
  | ref=>exact r.elim λzz r=>r.1▸rfl
 | arr=>exact aq r λzz zz r=>r.1▸rfl
theorem gA {n:Nat} (h:n < 64):n < lim:=aaA h (by decide)
theorem iA (m:aQ G) {d:Di} (rd:RD P H a d) (ok:eI d) (h:∀H',ai aJ H H'->Q (md d) H'):G (k+4) "told" [.ref a] H Q:=by
 refine rd.ex.elim λes l=>m.run 6 rfl rfl rfl (lm m l.1 (rd.sorted ok.1 λH1 b f1 zz lb eb=>?_))
 have ln:(bt (bI d)).length < lim:=by rw [dw,bI,aaB];exact gA ok.1
 refine dX (aH eb) lb (Ag d) (L2.diag (r:=λx y=>x=y) λzz zz=>rfl).wm (aaI ln) (λv w H' C N rv f y=>?_) λH' a' f zz zz e=>?_
 .obtain rfl:=rv.1
  refine aq (dD (bP.mp rv.2)) λs va r=>?_
  clear rv;obtain rfl:=r.1
  have VF:=rd.mn (f1.tr f)
  have Re:=ok.2 _ (cA r.2)
  refine VF.idx r.2 λu ru=>rS (congrArg Bool.not (ru.bJ Re.1)) ?_
  refine VF.idx r.2 λu ru=>m.told (vZ m ru Re.2 λbz f2=>?_)
  have:=y bz (f.tr f2)
  have e:Ag d (.str s)= .tup [.str s,mB va]:=by show AV.tup [_,((look s d).map mB).getD .none]=_;rw [r.2];rfl
  rw [e] at this
  exact this
 .exact ad e ⟨by rw [aaB,abg];exact ln,h _ (f1.tr f)⟩
end
theorem Ky (a:AV):∀b,i8 a b=true->a=b:=AV.rec (motive_1:=λa=>∀b,i8 a b=true->a=b) (motive_2:=λxs=>∀ys,Hu xs ys=true->xs=ys)
 (λb h=>by cases b<;>first | rfl | exact absurd h aaE)
 (λb h=>by cases b<;>first | rfl | exact absurd h aaE)
 (λi b h=>by cases b<;>first | exact congrArg _ (eq_of_beq h) | exact absurd h aaE)
 (λi b h=>by cases b<;>first | exact congrArg _ (of_decide_eq_true h) | exact absurd h aaE)
 (λi b h=>by cases b<;>first | exact congrArg _ (of_decide_eq_true h) | exact absurd h aaE)
 (λi b h=>by cases b<;>first | exact congrArg _ (of_decide_eq_true h) | exact absurd h aaE)
 (λxs ih b h=>by cases b<;>first | exact congrArg _ (ih _ h) | exact absurd h aaE)
 (λi b h=>by cases b<;>first | exact congrArg _ (Nat.eq_of_beq_eq_true h) | exact absurd h aaE)
 (λys h=>by cases ys<;>first | rfl | exact absurd h aaE)
 (λx xs ih XN ys h=>by
  cases ys with
  | nil=>exact absurd h aaE
  | cons y ys=>
   have h:=(Bool.and_eq_true _ _).mp h
   rw [ih _ h.1,XN _ h.2]) a
theorem ph (a:AV):i8 a a=true:=AV.rec (motive_1:=λa=>i8 a a=true) (motive_2:=λxs=>Hu xs xs=true) rfl rfl (λi=>beq_self_eq_true i) (λzz=>decide_eq_true rfl) (λzz=>decide_eq_true rfl) (λzz=>decide_eq_true rfl) (λzz h=>h) (λi=>Nat.beq_refl i) rfl
 (λzz zz h1 h2=>(Bool.and_eq_true _ _).mpr ⟨h1,h2⟩) a
theorem xv {a b:AV} (h:a≠b):i8 a b=false:=Bool.eq_false_iff.mpr λq=>h (Ky a b q)
section
variable {k k' v w:AV} {es fs:List (AV × AV)}
theorem qW:getD k ((k,v)::es)=some v:=by show (bif _ then _ else _)=_;rw [ph];rfl
theorem kY (h:k'≠k):getD k ((k',v)::es)=getD k es:=by show (bif _ then _ else _)=_;rw [xv h];rfl
theorem lu:bS k v ((k,w)::es)=(k,v)::es:=by show (bif _ then _ else _)=_;rw [ph];rfl
theorem iF (h:k'≠k):bS k v ((k',w)::es)=(k',w)::bS k v es:=by show (bif _ then _ else _)=_;rw [xv h];rfl
theorem getD_some:(getD k es).isSome=true ↔ k∈es.map (·.1):=by
 induction es with
 | nil=>exact ⟨nofun,λh=>(aaU h).elim⟩
 | cons e r ih=>
  by_cases q:e.1=k
  .subst q;exact iff_of_true (congrArg Option.isSome qW) (.head _)
  .rw [show getD k (e::r)=_ from kY q,ih,aa4,aaH]
   exact ⟨.inr,λh=>h.resolve_left λe=>q e.symm⟩
theorem E0 {e:AV × AV} {r:List (AV × AV)} (q:e.1=k):k∈(e::r).map (·.1):=q▸ .head _
theorem MD (h:k ∉ es.map (·.1)):getD k es= .none:=Option.not_isSome_iff_eq_none.mp λq=>h (getD_some.mp q)
theorem dL (h:k ∉ es.map (·.1)):bS k v es=es++[(k,v)]:=by
 induction es with
 | nil=>rfl
 | cons e r ih=>exact (iF λq=>h (E0 q)).trans (congrArg _ (ih λq=>h (.tail _ q)))
theorem D1 (h:k ∉ es.map (·.1)):getD k (es++fs)=getD k fs:=by
 induction es with
 | nil=>rfl
 | cons e r ih=>exact (kY λq=>h (E0 q)).trans (ih λq=>h (.tail _ q))
end
noncomputable def dY (m:Nat):List AV:=(List.range m).map λ(i:Nat)=>AV.int ((i:Int)+1)
theorem om {m:Nat} {n:Int}:AV.int n∈dY m ↔ 1<=n/\n<=m:=by
 refine aaG.trans ⟨λt0=>aw t0 λi h e=>?_,λh=>⟨(n - 1).toNat,List.mem_range.mpr ?_,congrArg AV.int ?_⟩⟩
 .cases e;rw [List.mem_range] at h;exact zw rfl h
 .exact zt h.1 (zr h.2)
 .exact zv h.1
theorem iw {es:List (AV × AV)} {m:Nat} (h:es.map (·.1)=dY m) (n:Int):bB (.int n) es:=⟨abC 1,λe he=>
 have:e.1∈dY m:=h▸abi he
 (aaG.mp this).elim λi q=>q.2▸rfl⟩
theorem Eh {xs:List AV} (h:xs.Pairwise λa b=>qc b a=false):bt xs=xs:=by
 induction h with
 | nil=>rfl
 | @cons x l h _ ih=>
  show w9 x (bt l)=_
  rw [ih]
  cases l with
  | nil=>rfl
  | cons y l=>show (bif qc y x then _ else _)=_;rw [h y (.head _)];rfl
theorem x9 (m:Nat):bt (dY m)=dY m:=Eh (List.pairwise_map.mpr (List.pairwise_lt_range.imp λh=>decide_eq_false (λe=>Nat.lt_asymm h (HL (Int.lt_of_add_lt_add_right e)))))
theorem pj (m:Nat):(dY m).length=m:=by rw [dY,aaB,List.length_range]
theorem L7 (m:Nat):(dY m).all AV.qd=true:=aaX.mpr λx h=>(aaG.mp h).elim λy q=>q.2▸rfl
theorem lR {tab:List (Int × Ob)} {w:Int × Ob} (nd:(tab.map (·.1)).Nodup) (h:w∈tab):ah w.1 tab=some w.2:=by
 induction tab with
 | nil=>cases h
 | cons e r ih=>
  have nd:=aa8.mp nd
  show (bif decide (e.1=w.1) then some e.2 else ah w.1 r)=_
  rcases aaH.mp h with q | q
  .rw [q,decide_eq_true rfl];rfl
  .rw [decide_eq_false λz:e.1=w.1=>nd.1 (aaG.mpr ⟨w,q,z.symm⟩)];exact ih nd.2 q
theorem bo {n:Int} {o:Ob} {tab:List (Int × Ob)} (h:ah n tab=some o):(n,o)∈tab:=by
 induction tab with
 | nil=>cases h
 | cons e r ih=>
  have h:(bif decide (e.1=n) then some e.2 else ah n r)=some o:=h
  by_cases q:e.1=n
  .rw [decide_eq_true q] at h;obtain rfl:=aay h;exact (q)▸ .head _
  .rw [decide_eq_false q] at h;exact .tail _ (ih h)
noncomputable def de:Ob->Prop
 | .null=>True
 | .dict d | .stream d _=>eI d
noncomputable def Fe (tab:List (Int × Ob)) (tr:Di):AV:= .tup [.tup (tab.map λw=>.tup [.int w.1,.int 0,qO w.2]),md tr]
section
variable {G:Nat->aj} {H H0:HP} {Q:KV} {QL:KL} {QS:KS} {k a:Nat} {P S:Nat->Prop} {loc:Loc} {c:PX} {b:PS}
noncomputable def Tw (C:KS) (I:Nat->Loc->HP->Prop) (j:Nat) (fl:Fl):Prop:=∀i loc' H',i < j->I i loc' H'->C fl loc' H'
noncomputable def V1 (C QS:KS):Prop:=(∀v loc' H',QS (.ret v) loc' H'->C (.ret v) loc' H')/\∀loc' H',QS .next loc' H'->C .brk loc' H'
theorem KA (I:Nat->Loc->HP->Prop) (n:Nat) (h:I n loc H) (step:∀j loc H (C:KS),I j loc H->Tw C I j .next->Tw C I j .cont->V1 C QS->c loc H (kT (N4 b C QS loc))):RZ c b loc H QS:=
 (bH I n ⟨h,λj loc H h=>step j loc H _ h (λi zz zz l h=>⟨i,l,h⟩) (λi zz zz l h=>⟨i,l,h⟩) ⟨λzz zz zz h=>h,λzz zz h=>h⟩⟩)
theorem Rz (I:Nat->Loc->HP->Prop) (n:Nat) (h:I n loc H) (step:∀j loc H (C:KS),I j loc H->Tw C I j .next->c loc H (kT (N4 b C QS loc))):RZ c b loc H QS:=KA I n h λj loc H C h n zz zz=>step j loc H C h n
theorem Ni (step:∀C:KS,V1 C QS->c loc H (kT (N4 b C QS loc))):RZ c b loc H QS:=KA (λzz loc' H'=>loc'=loc/\H'=H) 0 ⟨rfl,rfl⟩ λj loc' H' C e zz zz x=>by rw [e.1,e.2];exact step C x
theorem ai.re {H':HP} (f:ai aJ H H') {o:AO} (h:H.n<=a):ai aJ H (H'.set a o):=
 ⟨f.le,λzz hb zz=>have n:=aaJ (aax hb h);⟨(ey n).trans (f.same _ hb id).1,(D7 n).trans (f.same _ hb id).2⟩,λzz zz hb e hc=>(ey (aaJ (aax hb h))).trans (f.inst _ _ hb e hc)⟩
noncomputable abbrev yU (Q:KV) (H:HP) (o:AO):Prop:=∀H',ai aJ H H'->H'.n=H.n+1->H'.g H.n=o->Q (.ref H.n) H'
theorem fX (m:aQ G) {s:String} (h:yU Q H (Ay s)):tV (G (k+1)) "Name" [.str s] H Q:=by
 refine m.run 0 rfl rfl rfl (ad dq (upd.mk ?_))
 exact ⟨rfl,h _ (ai.push.re (aaF _)) rfl bp⟩
theorem ud (m:aQ G) {i:Nat} {c x y q:String} {v w:AV} (hq:FX.lookup c=some q) (hi:fq[i]? =some (q,["self",x,y],.cons (.dI (.loc "self") x (.loc x)) (.o (.dI (.loc "self") y (.loc y))))) (hn:((y==x)=false/\(x==y)=false)/\((q=="Lookup.__init__")=false/\(("self"==x)=false/\("self"==y)=false))) (hv:v≠ .unset) (hw:w≠ .unset) (h:yU Q H (.inst c [(x,v),(y,w)])):tV (G (k+1)) c [v,w] H Q:=by
 refine dF hq (m.run i hi hn.2.1 rfl ?_)
 have ls:(((Loc.new.upd "self" (.ref H.n)).upd x v).upd y w) "self"= .ref H.n:=by
  show (bif "self"==y then w else bif "self"==x then v else _)=_
  rw [hn.2.2.2,hn.2.2.1];rfl
 have lx:(((Loc.new.upd "self" (.ref H.n)).upd x v).upd y w) x=v:=by
  show (bif x==y then w else bif x==x then v else _)=_
  rw [hn.1.2,beq_self_eq_true];rfl
 have ly:(((Loc.new.upd "self" (.ref H.n)).upd x v).upd y w) y=w:=by
  show (bif y==y then w else _)=_
  rw [beq_self_eq_true];rfl
 refine ak lx (mG hv (ak ls (ad dq (upd.mk ?_))))
 refine ak ly (mG hw (ak ls (ad bp (upd.mk ?_))))
 refine ⟨rfl,h _ ((ai.push.re (aaF _)).re (aaF _)) rfl (bp.trans ?_)⟩
 show AO.inst c ((bif x==y then _ else _))=_
 rw [hn.1.2];rfl
theorem ji (m:aQ G) {hd:Nat} {b:List UInt8} (h:yU Q H (nF hd b)):tV (G (k+1)) "Stream" [.ref hd,.bytes b] H Q:=ud m (i:=1) rfl rfl ⟨⟨rfl,rfl⟩,rfl,rfl,rfl⟩ nofun nofun h
theorem y5 (m:aQ G) {n:Int} (h:yU Q H (cH n)):tV (G (k+1)) "Reference" [.int n,.int 0] H Q:=ud m (i:=2) rfl rfl ⟨⟨rfl,rfl⟩,rfl,rfl,rfl⟩ nofun nofun h
theorem Ph (m:aQ G) {s t:Nat} {r v:AV} {n:Int} {es:List (AV × AV)} (hv:v≠ .unset) (hs:H.g s=iy t r) (ht:H.g t= .dict es) (kf:bB (.int n) es) (hl:es.length < lim)
  (h:∀H',ai (atS t) H H'->H'.n=H.n->H'.g t= .dict (bS (.int n) (.tup [.int 0,v]) es)->Q .none H'):G (k+1) "Shelf.put" [.ref s,.int n,.int 0,v] H Q:=
 m.run 13 rfl rfl rfl (mG hv (ad hs (ad ht ⟨kf,hl,ng ht h⟩)))
theorem CR (m:aQ G) {s t:Nat} {r v:AV} {es:List (AV × AV)} (hv:v≠ .unset) (hs:H.g s=iy t r) (ht:H.g t= .dict es) (hn:es.map (·.1)=dY es.length) (hl:es.length < 64)
  (h:∀H',ai (atS t) H H'->H'.n=H.n+1->H'.g t= .dict (es++[(.int ((es.length:Int)+1),.tup [.int 0,v])])->H'.g H.n=cH ((es.length:Int)+1)->Q (.ref H.n) H') (lt:t < H.n):G (k+2) "Shelf.add" [.ref s,v] H Q:=by
 refine m.run 14 rfl rfl rfl (Rz (λj loc H'=>H'=H/\(loc "self"= .ref s/\loc "value"=v)/\∃n:Int,loc "number"= .int n/\1<=n/\n<=es.length+1/\(j:Int)=es.length+1 - n) es.length ⟨rfl,⟨rfl,rfl⟩,1,rfl,by decide,Int.le_add_of_nonneg_left (aa0 _),(Int.add_sub_cancel _ 1).symm⟩ ?_)
 rintro j loc _ C ⟨rfl,⟨l1,l2⟩,n,l3,h1,h2,h3⟩ hC
 refine ak l3 (ak l1 (ad hs (ad ht ⟨iw hn n,Dt (λe=>?_) λe=>?_⟩)))
 .have:=(om.mp (hn▸getD_some.mp e)).2
  exact ak l3 (hC (j - 1) _ _ (Nat.sub_lt (zy h3 this) Nat.one_pos) ⟨rfl,⟨l1,l2⟩,n+1,rfl,abd h1 (Int.le_add_of_nonneg_right (by decide)),Int.add_le_add_right this 1,(Int.ofNat_sub (zy h3 this)).trans ((congrArg (· - 1) h3).trans (Int.sub_sub _ _ 1))⟩)
 .have en:n=es.length+1:=by
   have:¬(1<=n/\n<=es.length):=λq=>(Bool.eq_false_iff.mp e) (getD_some.mpr (hn▸om.mpr q))
   exact Int.le_antisymm (Int.le_of_sub_nonneg (h3▸aa0 _)) (Int.not_le.mp λx=>this ⟨h1,x⟩)
  clear h3 h2 h1;subst en
  refine ak l2 (mG hv (ak l1 (ad hs (ak l3 (ad ht ⟨iw hn _,gA hl,?_⟩)))))
  rw [dL λq=>(Bool.eq_false_iff.mp e) (getD_some.mpr q)]
  refine ng ht λH1 f1 n1 e1=>ak l3 (y5 m ?_)
  rw [yU,n1]
  exact λH2 f2 n2 e2=>h H2 (f1.tn f2) n2 (f2.keep (n1▸lt) e1) e2
theorem RS.nums {s t:Nat} {tab:List (Int × Ob)} {tr:Di} (r:RS P H s t tab tr) {es:List (AV × AV)} (l:L2 (RT P H) es tab):es.map (·.1)=dY tab.length:=by
 rw [l.map_eq (g:=λw=>AV.int w.1) λzz zz r=>r.1,show (tab.map λx=>AV.int x.1)=(tab.map (·.1)).map AV.int from aa5.symm,r.num,aa5]
 rfl
theorem RS.nd {s t:Nat} {tab:List (Int × Ob)} {tr:Di} (r:RS P H s t tab tr):(tab.map (·.1)).Nodup:=r.num▸List.Pairwise.map _ (λa b (h:a < b)=>(λe=>aaJ h (qD ((Int.add_left_inj 1).mp e)))) List.pairwise_lt_range
theorem rX (m:aQ G) {s t:Nat} {tab:List (Int × Ob)} {tr:Di} (r:RS P H s t tab tr) (h:pK Q H aJ (dY tab.length)):G (k+1) "Shelf.numbers" [.ref s] H Q:=
 r.ins.elim λzz e1=>r.tb.elim λes e=>m.run 15 rfl rfl rfl (ad e1.1 (ad e.1 (by
  show we (es.map (·.1)) H _
  rw [r.nums e.2]
  refine ⟨.inl (L7 _),pj _▸r.len,?_⟩
  rw [x9]
  exact IG h .refl)))
theorem RO.dict {v:AV} {d:Di} (r:RO P H v (.dict d)) {F:AV->Prop} (h:∀a,RD P H a d->F (.ref a)):F v:=r.elim λa r=>r.1▸h a r.2
theorem tN (m:aQ G) {s t d:Nat} {tab:List (Int × Ob)} {tr dd:Di} {key:String} {n:Int} {o:Ob} (rs:RS P H s t tab tr) (rd:RD P H d dd) (hk:look key dd=some (.at (.ref n))) (hl:ah n tab=some o) (h:∀u,RO P H u o->Q u H):G (k+2) "Lookup.get" [.ref s,.ref d,.str key] H Q:=
 rs.ins.elim λzz e=>rd.ex.elim λzz e2=>m.run 12 rfl rfl rfl (ad e.1 (ad e2.1 (rd.Hx hk λu ru=>ru.elim λb q=>q.1▸hO m rs q.2.2 hl h)))
theorem nE (m:aQ G) {s t d:Nat} {tab:List (Int × Ob)} {tr dd:Di} {key:String} {va:Va} (rs:RS P H s t tab tr) (rd:RD P H d dd) (hk:look key dd=some va) (nr:va.isRef=false) (h:∀u,RV P H u va->Q u H):G (k+2) "Lookup.get" [.ref s,.ref d,.str key] H Q:=
 rs.ins.elim λzz e=>rd.ex.elim λzz e2=>m.run 12 rfl rfl rfl (ad e.1 (ad e2.1 (rd.Hx hk λu ru=>i6 m (ru.noRef nr) (h u ru))))
theorem yW (m:aQ G) {s t d:Nat} {tab:List (Int × Ob)} {tr dd:Di} {key:String} (rs:RS P H s t tab tr) (rd:RD P H d dd) (hk:look key dd= .none) (h:Q .none H):G (k+2) "Lookup.get" [.ref s,.ref d,.str key] H Q:=
 rs.ins.elim λzz e=>rd.ex.elim λzz e2=>m.run 12 rfl rfl rfl (ad e.1 (ad e2.1 (rd.TJ hk (i6 m .none h))))
theorem sY (m:aQ G) {s t:Nat} {tab:List (Int × Ob)} {tr:Di} {n:Int} {d:Di} (r:RS P H s t tab tr) (h1:look "Root" tr=some (.at (.ref n))) (h2:ah n tab=some (.dict d)) (h:∀a,RD P H a d->Q (.ref a) H):G (k+3) "Shelf.root" [.ref s] H Q:=
 r.ins.elim λzz e=>m.run 16 rfl rfl rfl (ad e.1 (ad e.1 (tN m r e.2 h1 h2 λu ru=>ru.elim λa q=>q.1▸q.2.at λzz zz zz=>h a q.2)))
end
theorem fm {α:Type} {p:α->Prop}:∀x∈([]:List α),p x:=λzz h=>(aaU h).elim
theorem zD {α β:Type} {n:α} {p:β->Prop}:n∈([]:List α) ↔ ∃x∈([]:List β),p x:=iff_of_false aaU λh=>h.elim λzz h=>aaU h.1
theorem An {tab:List (Int × Ob)} (h:tab.map (·.1)=(List.range tab.length).map λ(i:Nat)=>(i:Int)+1):L2 (λv (w:Int × Ob)=>v=AV.int w.1) (dY tab.length) tab:=by
 have:dY tab.length=(tab.map (·.1)).map AV.int:=by rw [h,aa5];rfl
 rw [this,aa5]
 exact L2.mJ (r:=λv (w:Int × Ob)=>v=AV.int w.1) (L2.diag λzz zz=>rfl)
section
variable {G:Nat->aj} {H H0 H':HP} {Q:KV} {QB:KB} {k a n:Nat} {P S:Nat->Prop} {loc:Loc}
noncomputable def bw (n:Nat):Nat->Prop:=λa=>n<=a
noncomputable def jg (P:Nat->Prop) (n:Nat):Nat->Prop:=λa=>P a/\a < n
theorem j3:cX (bw n) (jg P n) (jg P n) H:=λzz zz h=>⟨Nat.not_le.mpr h.2,h⟩
theorem ai.new (x:ai aJ H0 H) (f:ai (bw H0.n) H H'):ai aJ H0 H':=x.trans f λzz ha h=>(Nat.not_le.mpr ha h).elim
theorem ai.own (f:ai (atS a) H H') (h:n<=a):ai (bw n) H H':=f.weak λx zz e=>(show x=a from e)▸h
theorem Ot {vs:List AV} {u:AV} (e:H.g a= .list (vs++[u])) (h:∀H',ai (atS a) H H'->H'.n=H.n->H'.g a= .list vs->Q u H'):Gx a "pop" Q [] H:=
 ad e (dF (List.getLast?_concat ..) (ng e λH' f n e'=>h H' f n (e'.trans (congrArg AO.list List.dropLast_concat))))
theorem BF {vs:List AV} {u:AV} (e:H.g a= .list vs) (hl:vs.length < lim) (h:∀H',ai (atS a) H H'->H'.n=H.n->H'.g a= .list (vs++[u])->Q .none H'):Gx a "append" Q [u] H:=ad e ⟨hl,ng e h⟩
theorem W0 {vs:List AV} {u:AV} (e:H.g a= .list (vs++[u])) (h:QB true H):cP (.ref a) H QB:=ad e (rS (t:=true) (by cases vs<;>rfl) h)
theorem L2.J5 {α β:Type} {r:α->β->Prop} {l:List α} {m:List β} (h:L2 r l m):∀{C:Prop},(l=[]->m=[]->C)->(∀l0 a m0 b,l=l0++[a]->m=m0++[b]->L2 r l0 m0->r a b->C)->C:=h.rec (λh0 zz=>h0 rfl rfl)
 λx zz ih zz h1=>ih (λe1 e2=>h1 [] _ [] _ (congrArg _ e1) (congrArg _ e2) .nil x) λzz zz zz zz e1 e2 q z=>h1 (_::_) _ (_::_) _ (congrArg _ e1) (congrArg _ e2) (.cons x q) z
theorem Ga (m:aQ G) {v:AV} {o:Ob} (r:RO P H v o) (ok:de o) (h:∀H',ai aJ H H'->Q (qO o) H'):G (k+5) "told" [v] H Q:=by
 cases o with
 | null=>exact hG (x:= .none) m r (h _ .refl)
 | dict d=>exact r.elim λa r=>r.1▸iA m r.2 ok h
 | stream d b=>
  exact aq r λa hd r=>r.1▸m.run 6 rfl rfl rfl (g7 m r.2.1.2 (ad r.2.1.2 (m.told (iA m r.2.2 ok λH' f=>ad (f.fix r.2.1.1 r.2.1.2 rfl) (h H' f)))))
theorem RS.entry {s t:Nat} {tab:List (Int × Ob)} {tr:Di} (r:RS P H s t tab tr) {i:Int} {o:Ob} (hl:ah i tab=some o) {F:AV->Prop} (h:∀u,RO P H u o->F (.tup [.int 0,u])):ob (H.g t) (GN (.int i) F):=
 r.tb.elim λes e=>ad e.1 ⟨fi e.2,((gG e.2).some hl).elim λv q=>q.2.elim λu w=>dF (q.1.trans (congrArg some w.1)) (h u w.2)⟩
theorem sf (m:aQ G) {s t:Nat} {tab:List (Int × Ob)} {tr:Di} (r:RS P H s t tab tr) (ok:∀w∈tab,de w.2) (Kw:de (.dict tr)) (h:∀H',ai aJ H H'->Q (Fe tab tr) H'):G (k+7) "Shelf.told" [.ref s] H Q:=by
 refine m.run 17 rfl rfl rfl (r.ins.elim λzz e1=>ad e1.1 (rX m r λH1 b f1 zz lb eb=>?_))
 refine dX (aH eb) lb (λw=>.tup [.int w.1,.int 0,qO w.2]) (An r.num).wm (by rw [pj];exact aaI (gA r.len)) (λv w H' C N rv f y=>?_) λH' b f zz zz eb=>?_
 .obtain rfl:=rv.1
  have r':=r.mn (f1.tr f)
  have hl:=lR r.nd rv.2
  exact r'.ins.elim λzz e=>ad e.1 (r'.entry hl λu ru=>ad e.1 (r'.entry hl λu ru=>m.told (Ga m ru (ok _ rv.2) λH2 f2=>y H2 (f.tr f2))))
 .have r':=r.mn (f1.tr f)
  exact ad eb (r'.ins.elim λzz e=>ad e.1 (m.told (iA m e.2 Kw λH2 f2=>h H2 ((f1.tr f).tr f2))))
noncomputable def mO:At->Option Int
 | .ref n=>some n
 | _=>.none
noncomputable def gS:Va->List Int
 | .at a=>(mO a).toList
 | .arr xs=>xs.filterMap mO
noncomputable def cK (d:Di):List Int:=d.flatMap λx=>gS x.2
noncomputable def mi:Ob->List Int
 | .null=>[]
 | .dict d | .stream d _=>cK d
inductive Item where
 | va (x:Va) | ob (o:Ob)
noncomputable def Item.refs:Item->List Int
 | .va x=>gS x
 | .ob o=>mi o
noncomputable def XV:Va->Nat
 | .at _=>1
 | .arr xs=>1+xs.length
noncomputable def ZA:Ob->Nat
 | .null=>1
 | .dict d | .stream d _=>1+d.length*1000
noncomputable def Item.wt:Item->Nat
 | .va x=>XV x
 | .ob o=>ZA o
noncomputable def Item.Ok:Item->Prop
 | .va x=>yI x
 | .ob o=>de o
noncomputable def Item.isRef:Item->Bool
 | .va x=>x.isRef
 | .ob _=>false
noncomputable def RI (P:Nat->Prop) (H:HP) (v:AV):Item->Prop
 | .va x=>RV P H v x
 | .ob o=>RO P H v o
theorem RI.mono {P':Nat->Prop} (f:ai S H H') (hp:cX S P P' H) {v:AV} {x:Item} (r:RI P H v x):RI P' H' v x:=by
 cases x with
 | va=>exact RV.mono f hp r
 | ob=>exact RO.mono f hp r
theorem RI.set {v:AV} {x:Item} (r:RI P H v x):v≠ .unset:=by
 cases x with
 | va=>exact RV.set r
 | ob=>exact (RO.noRef r).set
theorem RI.noRef {v:AV} {x:Item} (r:RI P H v x) (h:x.isRef=false):ez H v:=by
 cases x with
 | va=>exact RV.noRef r h
 | ob=>exact RO.noRef r
noncomputable def KJ (d:Di) (key:AV):Item:= .va ((look (Jz key) d).getD (.at .none))
noncomputable def fJ (d:Di):List Item:=(bt (bI d)).map (KJ d)
noncomputable def Item.parts:Item->List Item
 | .va (.at _)=>[]
 | .va (.arr xs)=>xs.map λx=>.va (.at x)
 | .ob .null=>[]
 | .ob (.dict d) | .ob (.stream d _)=>fJ d
noncomputable def pY (P:Nat->Prop) (H:HP) (Q:KV) (l:List Item):Prop:=∀H' a' vs,ai aJ H H'->H.n<=a'->a' < H'.n->H'.g a'= .list vs->L2 (RI P H') vs l->Q (.ref a') H'
theorem sC {vs:List AV} {l:List Item} (h:pY P H Q l) (f:ai aJ H H') (r:L2 (RI P H') vs l):nw (.list vs) H' Q:=
 cN λH2 f2 n2 e2=>h H2 _ vs (f.tr f2) f.le ((n2)▸aaC _) e2 (r.imp λzz zz q=>q.mono f2 aV)
theorem Am (m:aQ G) {d:Di} (r:RD P H a d) (ok:eI d) (h:pY P H Q (fJ d)):G (k+2) "parts_of" [.ref a] H Q:=by
 refine r.ex.elim λes l=>m.run 7 rfl rfl rfl (lm m l.1 (r.sorted ok.1 λH1 b f1 zz lb eb=>dF (aH eb) ?_))
 have ln:(bt (bI d)).length < lim:=by rw [dw,bI,aaB];exact gA ok.1
 refine k7 (λvs acc H'=>ai aJ H1 H'/\∃done,bt (bI d)=done++vs/\L2 (RI P H') acc (done.map (KJ d))) ?_ _ _ _ ⟨.refl,[],rfl,.nil⟩ λacc H' q=>q.2.elim λdone e=>sC h (f1.tr q.1) (by rw [fJ,e.1,aaY];exact e.2)
 refine λv vs acc H' C N q hC zz=>q.2.elim λdone e=>aq (dD (bP.mp (e.1▸aaT _ (.head _)))) λs va z=>?_
 obtain rfl:=z.1
 refine (r.mn (f1.tr q.1)).idx z.2 λu ru=>hC u H' (bC q.1 lb id ⟨aH eb,rfl⟩) ?_ ⟨q.1,done++[.str s],by rw [e.1,aaW];rfl,?_⟩
 .rw [e.2.len,aaB]
  rw [e.1,aaD] at ln
  exact aaz (aaM ..) ln
 .rw [aaL]
  exact e.2.snoc (show RV P H' u ((look s d).getD _) by rw [z.2];exact ru)
theorem vX (m:aQ G) {v:AV} {x:At} (r:RA H v x) (hn:mO x= .none) (h:nw (.list []) H Q):G (k+2) "parts_of" [v] H Q:=by
 cases x with
 | none=>subst r;exact m.run 7 rfl rfl rfl (lE m h)
 | int i=>subst r;exact m.run 7 rfl rfl rfl (pX m h)
 | name s=>exact r.elim λa r=>r.1▸m.run 7 rfl rfl rfl (lj m r.2.2 h)
 | ref n=>cases hn
theorem Ii (m:aQ G) {v:AV} {x:Va} (r:RV P H v x) (nr:x.isRef=false) (h:pY P H Q (Item.va x).parts):G (k+2) "parts_of" [v] H Q:=by
 cases x with
 | «at» x=>exact vX m r (by cases x<;>first | rfl | cases nr) (sC h .refl .nil)
 | arr xs=>exact aq r λa vs r=>r.1▸m.run 7 rfl rfl rfl (lJ m r.2.2.1 (ad r.2.2.1 (sC h .refl (L2.xq r.2.2.2))))
theorem G3 (m:aQ G) {v:AV} {o:Ob} (r:RO P H v o) (ok:de o) (h:pY P H Q (Item.ob o).parts):G (k+3) "parts_of" [v] H Q:=by
 cases o with
 | null=>exact vX m (x:= .none) r rfl (sC h .refl .nil)
 | dict d=>exact r.elim λa r=>r.1▸Am m r.2 ok h
 | stream d b=>exact aq r λa hd r=>r.1▸m.run 7 rfl rfl rfl (g7 m r.2.1.2 (ad r.2.1.2 (Am m r.2.2 ok h)))
theorem IW (m:aQ G) {v:AV} {it:Item} (r:RI P H v it) (ok:it.Ok) (nr:it.isRef=false) (h:pY P H Q it.parts):G (k+3) "parts_of" [v] H Q:=by
 cases it with
 | va x=>exact Ii m r nr h
 | ob o=>exact G3 m r ok h
end
noncomputable def qh (l:List Item):Nat:=(l.map Item.wt).sum
theorem Dw (it:Item):1<=it.wt:=by
 rcases it with (_ | _) | (_ | _ | _)<;>first | exact aaF _ | exact aaM ..
theorem uj {it:Item} {l:List Item}:qh (it::l)=it.wt+qh l:=rfl
theorem nu (l l':List Item):qh (l++l')=qh l+qh l':=by rw [qh,aaL,List.sum_append];rfl
theorem zi (l:List Item):qh l.reverse=qh l:=by rw [qh,List.map_reverse,List.sum_reverse];rfl
theorem Ly {c:Nat} {l:List Item} (h:∀it∈l,it.wt<=c):qh l<=l.length*c:=by
 induction l with
 | nil=>exact abp _
 | cons it r ih=>rw [aa2,Nat.succ_mul,abg];exact aaQ (h it (.head _)) (ih λx hx=>h x (.tail _ hx))
theorem C6 {l:List Item}:l.length<=qh l:=by
 induction l with
 | nil=>exact aaF _
 | cons it r ih=>rw [uj,aa2,abg];exact aaQ (Dw it) ih
theorem Mx (xs:List At):qh (xs.map λx=>Item.va (.at x))=xs.length:=by
 induction xs with
 | nil=>rfl
 | cons x r ih=>rw [aa4,uj,ih,abg];rfl
theorem xC (d:Di):(fJ d).length=d.length:=by rw [fJ,aaB,dw,bI,aaB]
theorem pE {d:Di} {it:Item} (h:it∈fJ d):∃s va,it= .va va/\look s d=some va:=
 (aaG.mp h).elim λw q=>aq (dD (bP.mp q.1)) λs va z=>(bH s va ⟨by rw [<-q.2,z.1];show Item.va ((look s d).getD _)=_;rw [z.2];rfl,z.2⟩)
theorem QG {it:Item} (ok:it.Ok):it.wt < 70000:=by
 rcases it with (_ | xs) | (_ | d | ⟨d,b⟩)
 .show 1 < _;decide
 .have:xs.length < 1000:=ok;show 1+_ < _;exact aax (abr this 1) (by decide)
 .show 1 < _;decide
 .have:d.length < 64:=ok.1;show 1+_ < _;exact zF (Nat.mul_le_mul_right 1000 this) (by simp+arith)
 .have:d.length < 64:=ok.1;show 1+_ < _;exact zF (Nat.mul_le_mul_right 1000 this) (by simp+arith)
theorem ES {it:Item} (ok:it.Ok):qh it.parts < it.wt/\∀x∈it.parts,x.Ok:=by
 have dd:∀d,eI d->qh (fJ d) < 1+d.length*1000/\∀x∈fJ d,x.Ok:=λd ok=>by
  have h:∀x∈fJ d,x.Ok/\x.wt<=1000:=λx hx=>aq (pE hx) λs va q=>by
   have:=(ok.2 _ (cA q.2)).2
   rw [q.1]
   refine ⟨this,?_⟩
   cases va with
   | «at»=>show 1<=1000;decide
   | arr xs=>have:xs.length < 1000:=this;show 1+_<=_;exact aaw (aaS (Uv _)) this
  have:=Ly λx hx=>(h x hx).2
  rw [xC] at this
  exact ⟨aaz this (Nat.lt_add_of_pos_left Nat.one_pos),λx hx=>(h x hx).1⟩
 rcases it with (_ | xs) | (_ | d | ⟨d,b⟩)
 .exact ⟨Nat.zero_lt_one,fm⟩
 .refine ⟨by show qh (xs.map _) < 1+_;rw [Mx];exact Nat.lt_add_of_pos_left Nat.one_pos,λx hx=>(aaG.mp hx).elim λy q=>q.2▸trivial⟩
 .exact ⟨Nat.zero_lt_one,fm⟩
 .exact dd d ok
 .exact dd d ok
theorem ch {key:String} {va:Va} {d:Di} (nd:(d.map (·.1)).Nodup) (h:(key,va)∈d):look key d=some va:=by
 induction d with
 | nil=>cases h
 | cons x t ih=>
  have nd:=aa8.mp nd
  refine (aaH.mp h).elim (λe=>?_) λe=>?_
  .exact (e)▸aY
  .exact (aL λq=>nd.1 (aaG.mpr ⟨_,e,q.symm⟩)).trans (ih nd.2 e)
theorem Dp {d:Di} (nd:(d.map (·.1)).Nodup) (n:Int):n∈cK d ↔ ∃it∈fJ d,n∈it.refs:=by
 refine List.mem_flatMap.trans ⟨λt1=>aw t1 λx hx h=>⟨KJ d (.str x.1),abi (bP.mpr (abi (f:=λx:String × Va=>AV.str x.1) hx)),?_⟩,λt0=>aw t0 λit hi h=>aq (pE hi) λs va q=>⟨_,cA q.2,by rw [q.1] at h;exact h⟩⟩
 show n∈gS ((look x.1 d).getD _)
 exact (ch nd (va:=x.2) hx)▸h
noncomputable def Item.nd:Item->Prop
 | .ob (.dict d) | .ob (.stream d _)=>(d.map (·.1)).Nodup
 | _=>True
theorem RI.nd {P:Nat->Prop} {H:HP} {v:AV} {it:Item} (r:RI P H v it):it.nd:=by
 rcases it with x | (_ | d | ⟨d,b⟩)
 .trivial
 .trivial
 .exact Exists.elim r λzz r=>r.2.nd
 .exact aq r λzz zz r=>r.2.2.nd
theorem xG {it:Item} (nd:it.nd) (nr:it.isRef=false) (n:Int):n∈it.refs ↔ ∃x∈it.parts,n∈x.refs:=by
 rcases it with (x | xs) | (_ | d | ⟨d,b⟩)
 .cases x with
  | ref=>cases nr
  | _=>exact zD
 .refine abB.trans ⟨λt1=>aw t1 λx hx h=>⟨.va (.at x),abi hx,Option.mem_toList.mpr h⟩,λt0=>aw t0 λit hi h=>(aaG.mp hi).elim λx q=>⟨x,q.1,?_⟩⟩
  replace h:=(q.2).symm▸h
  exact Option.mem_toList.mp h
 .exact zD
 .exact Dp nd n
 .exact Dp nd n
noncomputable def pr (n:Int):AV:= .tup [.int n,.int 0]
theorem CU {a b:Int} (h:pr a=pr b):a=b:=AV.int.inj (abf (AV.tup.inj h)).1
noncomputable def gR (ns:List Int):List (AV × AV):=ns.map λn=>(pr n,.bool true)
theorem gp {ns:List Int} {n:Int}:pr n∈(gR ns).map (·.1) ↔ n∈ns:=by
 rw [gR,aa5]
 exact ⟨λh=>(aaG.mp h).elim λx q=>CU q.2▸q.1,λh=>aaG.mpr ⟨n,h,rfl⟩⟩
theorem bQ {α:Type} {ns:List α} {f:α->Int} {g:α->AV} {n:Int}:bB (pr n) (ns.map λx=>(pr (f x),g x)):=⟨abC 2,λe he=>(aaG.mp he).elim λx q=>q.2▸rfl⟩
theorem rL {ns:List Int} {n:Int} (h:n ∉ ns):bS (pr n) (.bool true) (gR ns)=gR (ns++[n]):=(dL λq=>h (gp.mp q)).trans (by rw [gR,gR,aaL];rfl)
theorem Vz {α:Type} {a:α} {p:α->Prop}:(∃x∈[a],p x) ↔ p a:=⟨λh=>h.elim λx h=>aaK.mp h.1▸h.2,λq=>⟨a,.head _,q⟩⟩
theorem Vr {α:Type} {p:α->Prop} {q:Prop}:(q\/∃x∈([]:List α),p x) ↔ q:=or_iff_left λh=>h.elim λzz h=>aaU h.1
theorem qH {R ns ug:List Int} {iY ext:List Item} {iu:Item} (h:∀n,n∈R ↔ n∈ns\/∃x∈iY++[iu],n∈x.refs) (e:∀n,(n∈ns\/n∈iu.refs) ↔ (n∈ug\/∃x∈ext,n∈x.refs)) (n:Int):n∈R ↔ n∈ug\/∃x∈iY++ext,n∈x.refs:=by
 have s:∀l:List Item,(∃x∈iY++l,n∈x.refs) ↔ (∃x∈iY,n∈x.refs)\/∃x∈l,n∈x.refs:=λl=>by simp only [List.mem_append,or_and_right,exists_or]
 rw [h,s,s,or_left_comm,or_left_comm (a:=n∈ug),<-e,Vz]
structure Kc (P:Nat->Prop) (H:HP) (qp:Item) (fa sa la:Nat) (ns:List Int) (iY:List Item) (vs:List AV) (H':HP):Prop where
 aD:ai aJ H H'
 lt:fa < H'.n/\sa < H'.n/\la < H'.n
 g1:H'.g fa= .list (ns.map pr)
 g2:H'.g sa= .dict (gR ns)
 g3:H'.g la= .list vs
 l:L2 (RI (jg P H.n) H') vs iY
 b:ns.length+qh iY<=qp.wt
 nd:ns.Nodup
 ok:∀x∈iY,x.Ok
 refs:∀n,n∈qp.refs ↔ n∈ns\/∃x∈iY,n∈x.refs
noncomputable def Tz (P:Nat->Prop) (H:HP) (qp:Item) (fa sa la:Nat) (j:Nat) (loc:Loc) (H':HP):Prop:=(loc "found"= .ref fa/\loc "seen"= .ref sa/\loc "line"= .ref la)/\∃ns iY vs,qh iY=j/\Kc P H qp fa sa la ns iY vs H'
section
variable {G:Nat->aj} {H:HP} {Q:KV} {k:Nat} {P:Nat->Prop}
noncomputable def PF (it:Item) (H:HP) (Q:KV):Prop:=∀(H':HP) (a:Nat) (ns:List Int),ai aJ H H'->H.n<=a->a < H'.n->H'.g a= .list (ns.map pr)->ns.Nodup->ns.length < 70000->(∀n,n∈ns ↔ n∈it.refs)->Q (.ref a) H'
theorem iR (m:aQ G) {v:AV} {it:Item} (r:RI P H v it) (ok:it.Ok) (h:PF it H Q):G (k+4) "references_in" [v] H Q:=by
 have hw:=QG ok
 refine m.run 8 rfl rfl rfl (cN λH1 f1 n1 e1=>cN λH2 f2 n2 e2=>mG (v:=v) r.set (cN λH3 f3 n3 e3=>?_))
 have mK:=(f1.tr f2).tr f3
 have qP:H.n < H1.n:=n1▸aaC _
 have wW:H1.n < H2.n:=n2▸aaC _
 have Hl:H2.n < H3.n:=n3▸aaC _
 have l1:=aaI qP
 have l2:=aaw l1 (aaI wW)
 refine Rz (Tz P H it H.n H1.n H2.n) _ ⟨⟨rfl,rfl,rfl⟩,[],[it],[v],rfl,⟨mK,⟨aaA qP (aaA wW Hl),aaA wW Hl,Hl⟩,f3.keep (aaA qP wW) (f2.keep qP e1),f3.keep wW e2,e3,.cons (r.mono mK λa ha hp=>⟨id,hp,ha⟩) .nil,by rw [List.length_nil,abE];exact aaF _,.nil,λx hx=>aaK.mp hx▸ok,λn=>by rw [Vz];exact ⟨.inr,λq=>q.resolve_left aaU⟩⟩⟩ ?_
 refine λj loc H' C I hN=>bj I.2 λns iY vs q=>ak I.1.2.2 ?_
 have t:=q.2
 have V7:ns.length < 70000:=aaz (aaw (aaM ..) t.b) hw
 have VM:ns.length < lim:=aaA V7 (by decide)
 refine t.l.J5 (λe1 e2=>?_) λRJ u sL iu e1 e2 l0 ru=>?_
 .replace t:=(e1)▸t
  exact ad t.g3 (ak I.1.1 (h H' H.n ns t.aD (aaF _) t.lt.1 t.g1 t.nd V7 λn=>(Vr.symm.trans (e2▸(t.refs n).symm))))
 rw [e1,e2] at t
 have wj:qh sL+iu.wt=j:=by rw [<-q.1,e2,nu];rfl
 have tb:=t.b
 rw [nu,show qh [iu]=iu.wt from rfl] at tb
 have wp:=Dw iu
 refine W0 t.g3 (ak I.1.2.2 (ad t.g3 (Ot t.g3 λH4 f4 n4 e4=>?_)))
 have t1:=f4.ne t.lt.1 t.g1 (aaJ (aaA qP wW))
 have t2:=f4.ne t.lt.2.1 t.g2 (aaJ wW)
 have RH:=f4.own l2
 have Ll:=ru.mono RH j3
 have l4:=l0.imp λzz zz r=>RI.mono RH j3 r
 have VN:=λx hx=>t.ok x (aa3 [iu] hx)
 have nz:H.n < H4.n/\H1.n < H4.n/\H2.n < H4.n:=n4▸t.lt
 refine mG Ll.set ?_
 clear ru Hl mK e3 n3 f3 e2 e1;cases hr:iu.isRef with
 | false=>
  have po:=ES (t.ok iu (aaT _ (.head _)))
  refine (Ll.noRef hr).isin _ (ak I.1.2.2 (ad e4 (mG Ll.set (IW m Ll (t.ok iu (aaT _ (.head _))) hr λH5 a' vs' f5 h1 h2 h3 h4=>?_))))
  have e5:=f5.keep nz.2.2 e4
  refine ad e5 ⟨aaJ (aax nz.2.2 h1),ad h3 ⟨?_,ng e5 λH6 f6 n6 e6=>?_⟩⟩
  .have:= @C6 sL;have:= @C6 iu.parts;rw [l4.len,h4.len]
   have:lim=1000000:=rfl
   exact aaw (aaQ (by assumption) (aaw (by assumption) (aaI po.1))) (aaw (abn _ _) (aaw tb (aaw (aaI hw) (le_of_le_of_eq (by decide) this.symm))))
  .have Xi:=f6.own l2
   have Hq:=f5.no.trans Xi λzz zz h=>h
   refine hN (qh (sL++iu.parts.reverse)) _ _ (by rw [nu,zi];exact tS (abr po.1 _) wj) ⟨⟨I.1.1,I.1.2.1,I.1.2.2⟩,ns,sL++iu.parts.reverse,_,rfl,(t.aD.new RH).new Hq,⟨n6▸f5.lt nz.1,n6▸f5.lt nz.2.1,n6▸f5.lt nz.2.2⟩,f6.ne (f5.lt nz.1) (f5.keep nz.1 t1) (aaJ (aaA qP wW)),f6.ne (f5.lt nz.2.1) (f5.keep nz.2.1 t2) (aaJ wW),e6,(l4.imp λzz zz r=>RI.mono Hq j3 r).append (h4.rev.imp λzz zz r=>RI.mono Xi j3 r),by rw [nu,zi];exact aaw (abj (abj (aaI po.1) _) _) tb,t.nd,λx hx=>(aa6.mp hx).elim (VN x) λhx=>po.2 x (List.mem_reverse.mp hx),qH t.refs λn=>or_congr .rfl ((xG Ll.nd hr n).trans ?_)⟩
   simp only [List.mem_reverse]
 | true=>
  cases iu with
  | ob o=>exact absurd hr aaE
  | va x=>cases x with
   | arr xs=>exact absurd hr aaE
   | «at» x=>cases x with
    | ref n=>
     refine Ll.elim λb z=>?_
     clear Ll;obtain rfl:=z.1
     have eb:=z.2.2
     refine ad eb (ad eb (cQ m eb (ak I.1.2.1 (ad t2 ⟨bQ,?_⟩))))
     have JJ:∀H5 ug,ai (bw H.n) H4 H5->H5.n=H4.n->H5.g H.n= .list (ug.map pr)->H5.g H1.n= .dict (gR ug)->H5.g H2.n= .list RJ->ug.length<=ns.length+1->ug.Nodup->(∀n',(n'∈ns\/n'∈[n]) ↔ n'∈ug)->Kc P H it H.n H1.n H2.n ug sL RJ H5:=λH5 ug f5 n5 g1 g2 g3 hl hd hm=>
      ⟨(t.aD.new RH).new f5,n5▸nz,g1,g2,g3,l4.imp λzz zz r=>RI.mono f5 j3 r,zF (aaQ tb (aaQ wp hl)) (by simp+arith),hd,VN,λn'=>by
       have:=qH (ext:=[]) t.refs (λn'=>(hm n').trans Vr.symm) n'
       rwa [aaY] at this⟩
     refine Dt (λs=>hN (qh sL) _ _ (tS (abl wp) wj) ⟨⟨I.1.1,I.1.2.1,I.1.2.2⟩,ns,sL,RJ,rfl,JJ H4 ns .refl rfl t1 t2 e4 (aba _) t.nd λn'=>or_iff_left_of_imp λq=>aaK.mp q▸gp.mp (getD_some.mp s)⟩) λs=>?_
     have hn:n ∉ ns:=λq=>(Bool.eq_false_iff.mp s) (getD_some.mpr (gp.mpr q))
     refine ak I.1.2.1 (ad eb (cQ m eb (ad t2 ⟨bQ,by rw [gR,aaB];exact VM,ng t2 λH5 f5 n5 e5=>?_⟩)))
     have WI:=f5.fix z.2.1 eb rfl
     have g5:=f5.ne nz.1 t1 (aaJ qP)
     refine ak I.1.1 (ad g5 (ad WI (cQ m WI (BF g5 (by rw [aaB];exact VM) λH6 f6 n6 e6=>?_))))
     refine hN (qh sL) _ _ (tS (abl wp) wj) ⟨⟨I.1.1,I.1.2.1,I.1.2.2⟩,ns++[n],sL,RJ,rfl,JJ H6 _ ((f5.own l1).tr (f6.own (aaF _))) (n6.trans n5) (e6.trans (by rw [aaL];rfl)) (f6.ne (n5▸nz.2.1) (e5.trans (congrArg AO.dict (rL hn))) (aaN qP)) (f6.ne (n5▸nz.2.2) (f5.ne nz.2.2 e4 (aaN wW)) (aaN (aaA qP wW))) (by rw [aaD];exact aaF _) ?_ λn'=>aa6.symm⟩
     exact abw.mpr ⟨t.nd,abu _ n,λx hx y hy e=>hn (aaK.mp hy▸e▸hx)⟩
    | _=>exact absurd hr aaE
end
section
variable {G:Nat->aj} {H H0 H':HP} {Q:KV} {QL:KL} {k a tc:Nat} {P S:Nat->Prop} {loc:Loc} {elt:PX} {cs:PC} {tg:Tg} {src:HP->Prop}
theorem q8 {β γ:Type} {r:AV->β->Prop} {q:HP->AV->γ->Prop} (f:β->γ) (p:β->Bool) {vs:List AV} {ws:List β} (tr:∀{H' bz},ai S H0 H'->ai S H' bz->ai S H0 bz) (qm:∀H' bz v c,ai S H' bz->q H' v c->q bz v c) (DI:∀H',ai S H0 H'->src H')
  (step:∀v w H' (C:KV) (N:HP->Prop),r v w->ai S H0 H'->(p w=true->∀bz u,ai S H' bz->q bz u (f w)->C u bz)->(p w=false->N H')->Gq elt cs tg loc v H' C N)
  (hr:L2 r vs ws):∀acc ds H,acc.length+vs.length<=lim->ai S H0 H->L2 (q H) acc ds->(∀H' xJ,ai S H0 H'->L2 (q H') xJ (ds++(ws.filter p).map f)->QL xJ H')->iZ elt cs tg src loc vs H acc QL:=by
 induction hr with
 | nil=>exact λacc ds H zz hf hq hQ=>hQ H acc hf (by rw [List.filter_nil,List.map_nil,aaY];exact hq)
 | cons rv _ ih=>
  exact λacc ds H hl hf hq hQ=>step _ _ H _ _ rv hf
   (λe bz u I5 hu=>⟨DI _ (tr hf I5),aax (abl (Nat.succ_pos _)) hl,ih _ (ds++[f _]) _ (by rw [aaD,aa9,abg (List.length [_])];exact hl) (tr hf I5) ((hq.imp λzz zz z=>qm _ _ _ _ I5 z).snoc hu) λH3 xJ f3 h3=>hQ H3 xJ f3 (by rwa [List.filter_cons_of_pos e,aa4,List.append_cons])⟩)
   λe=>⟨DI _ hf,ih _ ds _ (Nat.le_of_succ_le hl) hf hq λH3 xJ f3 h3=>hQ H3 xJ f3 (by rwa [List.filter_cons_of_neg ((e)▸aaE)])⟩
noncomputable def tU {γ:Type} (q:HP->AV->γ->Prop) (Q:KV) (H:HP) (S:Nat->Prop) (l:List γ):Prop:=∀H' a' vs,ai S H H'->H.n<=a'->a' < H'.n->H'.g a'= .list vs->L2 (q H') vs l->Q (.ref a') H'
theorem Qv {γ:Type} {q:HP->AV->γ->Prop} {vs:List AV} {l:List γ} (h:tU q Q H S l) (qm:∀H' bz v c,ai aJ H' bz->q H' v c->q bz v c) (f:ai S H H') (r:L2 (q H') vs l):nw (.list vs) H' Q:=
 cN λH2 f2 n2 e2=>h H2 _ vs (f.tn f2) f.le ((n2)▸aaC _) e2 (r.imp λzz zz z=>qm _ _ _ _ f2 z)
theorem dB {β γ:Type} {r:AV->β->Prop} {q:HP->AV->γ->Prop} {xs:List AV} {ws:List β} (e:eX (H.g a)=some xs) (la:a < H.n) (f:β->γ) (p:β->Bool) (qm:∀H' bz v c,ai aJ H' bz->q H' v c->q bz v c) (hr:L2 r xs ws) (hl:xs.length<=lim)
  (step:∀v w H' (C:KV) (N:HP->Prop),r v w->ai aJ H H'->(p w=true->∀bz u,ai aJ H' bz->q bz u (f w)->C u bz)->(p w=false->N H')->Gq elt cs tg loc v H' C N)
  (h:tU q Q H aJ ((ws.filter p).map f)):eV elt tg .plain cs loc Q [.ref a] H:=
 dF e (q8 f p .tr qm (λH' f'=>bC f' la id ⟨e,rfl⟩) step hr [] [] H (by rwa [List.length_nil,abE]) .refl .nil λH' acc f' l=>Qv h qm f' l)
theorem cB {β γ:Type} {r:AV->β->Prop} {q:HP->AV->γ->Prop} {xs:List AV} {ws:List β} (e:eX (H.g a)=some xs) (la:a < H.n) (f:β->γ) (qm:∀H' bz v c,ai aJ H' bz->q H' v c->q bz v c) (hr:L2 r xs ws) (hl:xs.length<=lim)
  (step:∀v w H' (C:KV) (N:HP->Prop),r v w->ai aJ H H'->(∀bz u,ai aJ H' bz->q bz u (f w)->C u bz)->Gq elt cs tg loc v H' C N)
  (h:tU q Q H aJ (ws.map f)):eV elt tg .plain cs loc Q [.ref a] H:=
 dB e la f (λzz=>true) qm hr hl (λv w H' C N rv f' y zz=>step v w H' C N rv f' (y rfl)) (by rwa [rQ])
noncomputable def fC (P:Nat->Prop) (H:HP) (v:AV) (x:String × Va):Prop:=∃u,v= .tup [.str x.1,u]/\RV P H u x.2
theorem fC.mn (f:ai aJ H H') {v:AV} {x:String × Va} (r:fC P H v x):fC P H' v x:=r.imp λzz q=>⟨q.1,q.2.mn f⟩
theorem lC {ps:List (AV × AV)}:∀{es:List (AV × AV)},((es++ps).map (·.1)).Nodup->ps.foldl (λes p=>bS p.1 p.2 es) es=es++ps:=by
 induction ps with
 | nil=>exact λzz=>(aaY _).symm
 | cons p ps ih=>
  intro es nd
  rw [List.append_cons] at nd
  have:p.1 ∉ es.map (·.1):=λq=>by
   rw [aaL,aaL] at nd
   exact (abw.mp (abw.mp nd).1).2.2 _ q _ (.head _) rfl
  show List.foldl _ (bS _ _ _) _=_
  rw [dL this,ih nd,<-List.append_cons]
theorem vb {vs:List AV} {d:Di} (l:L2 (fC P H) vs d):∃es,dH vs=some es/\L2 (RE P H) es d:=l.rec ⟨[],rfl,.nil⟩ λ{v x zz zz} r zz ih=>r.elim λu q=>ih.elim λes z=>⟨(.str x.1,u)::es,by rw [q.1];show Option.map _ (dH _)=_;rw [z.1];rfl,.cons ⟨rfl,q.2⟩ z.2⟩
theorem zf {es:List (AV × AV)} {d:Di} (l:L2 (RE P H) es d) (nd:(d.map (·.1)).Nodup):(es.map (·.1)).Nodup:=by
 rw [jU l]
 have:bI d=(d.map (·.1)).map AV.str:=aa5.symm
 rw [this]
 exact nd.map _ λzz zz h e=>h (AV.str.inj e)
theorem RD.fresh {es:List (AV × AV)} {d:Di} (lt:a < H.n) (z:P a) (e:H.g a= .dict es) (l:L2 (RE P H) es d) (nd:(d.map (·.1)).Nodup):RD P H a d:=⟨lt,z,⟨es,e,l⟩,nd⟩
noncomputable def vV (P:Nat->Prop) (Q:KV) (H:HP) (d:Di):Prop:=∀H' a',ai aJ H H'->H.n<=a'->RD P H' a' d->Q (.ref a') H'
theorem iS {vs:List AV} {d:Di} (e:H.g a= .list vs) (l:L2 (fC P H) vs d) (nd:(d.map (·.1)).Nodup) (z:P H.n) (h:vV P Q H d):vU (.ref a) H Q:=by
 refine (vb l).elim λes q=>ad e (dF q.1 ⟨?_,?_⟩)
 .rw [jU q.2]
  exact λx hx=>(aaG.mp hx).elim λzz z=>⟨z.2▸Nat.one_ne_zero,λy hy=>(aaG.mp hy).elim λzz w=>w.2▸z.2▸rfl⟩
 .rw [cT,lC (es:=[]) (zf q.2 nd)]
  exact cN λH' f n e'=>h H' _ f (aaF _) (.fresh (n▸aaC _) z e' (q.2.imp λzz zz r=>r.mono f aV) nd)
noncomputable def ae (n:Int):List (Int × Int)->Option Int
 | []=>.none
 | e::r=>bif decide (e.1=n) then some e.2 else ae n r
noncomputable def dt (tbl:List (Int × Int)):List (AV × AV):=tbl.map λx=>(pr x.1,pr x.2)
theorem pJ {n:Int} {tbl:List (Int × Int)}:getD (pr n) (dt tbl)=(ae n tbl).map pr:=by
 induction tbl with
 | nil=>rfl
 | cons e r ih=>
  show (bif i8 (pr e.1) (pr n) then _ else _)=Option.map _ (bif _ then _ else _)
  have:i8 (pr e.1) (pr n)=decide (e.1=n):=by
   show (decide (e.1=n)&&(decide ((0:Int)=0)&&true))=_
   exact Bool.and_true _
  rw [this]
  cases decide (e.1=n) with
  | true=>rfl
  | false=>exact ih
noncomputable def oA (tbl:List (Int × Int)):At->At
 | .ref n=>((ae n tbl).map .ref).getD .none
 | a=>a
noncomputable def ib (tbl:List (Int × Int)):Va->Va
 | .at a=>.at (oA tbl a)
 | .arr xs=>.arr (xs.map (oA tbl))
noncomputable def Va.nul:Va->Bool
 | .at .none=>true
 | _=>false
noncomputable def jt (tbl:List (Int × Int)) (d:Di):Di:=(d.map λx=>(x.1,ib tbl x.2)).filter λx=>!x.2.nul
noncomputable def BM (tbl:List (Int × Int)):Ob->Ob
 | .null=>.null
 | .dict d=>.dict (jt tbl d)
 | .stream d b=>.stream (jt tbl d) b
theorem Hs (m:aQ G) {tbl:List (Int × Int)} {n:Int} (e:H.g a=cH n) (ht:H.g tc= .dict (dt tbl)) (h:∀H' v',ai aJ H H'->RA H' v' (oA tbl (.ref n))->Q v' H'):G (k+2) "renumbered" [.ref a,.ref tc] H Q:=by
 refine m.run 9 rfl rfl rfl (vR m e (ad e (cQ m e (ad ht ⟨bQ,?_⟩))))
 have g:= @pJ n tbl
 have h:∀H' v',ai aJ H H'->RA H' v' (((ae n tbl).map .ref).getD .none)->Q v' H':=h
 cases hl:ae n tbl with
 | none=>rw [hl] at g h;exact rS (congrArg Option.isSome g) (h H .none .refl rfl)
 | some n'=>
  rw [hl] at g h
  exact rS (congrArg Option.isSome g) (ad e (cQ m e (ad ht ⟨bQ,dF g (y5 m λH1 f1 n1 e1=>h H1 _ f1 ⟨_,rfl,n1▸aaC _,e1⟩)⟩)))
theorem s6 (m:aQ G) {v:AV} {x:At} {tbl:List (Int × Int)} (r:RA H v x) (ht:H.g tc= .dict (dt tbl)) (h:∀H' v',ai aJ H H'->RA H' v' (oA tbl x)->Q v' H'):G (k+2) "renumbered" [v,.ref tc] H Q:=by
 cases x with
 | none=>subst r;exact m.run 9 rfl rfl rfl (lE m (h H _ .refl rfl))
 | int i=>subst r;exact m.run 9 rfl rfl rfl (pX m (h H _ .refl rfl))
 | name s=>exact r.elim λa q=>q.1▸m.run 9 rfl rfl rfl (lj m q.2.2 (h H _ .refl ⟨a,rfl,q.2⟩))
 | ref n=>exact r.elim λa q=>q.1▸Hs m q.2.2 ht h
theorem GS (m:aQ G) {v:AV} {x:Va} {tbl:List (Int × Int)} (r:RV P H v x) (ok:yI x) (Mn:tc < H.n) (ht:H.g tc= .dict (dt tbl)) (h:∀H' v',ai aJ H H'->RV (bw H.n) H' v' (ib tbl x)->Q v' H'):G (k+3) "renumbered" [v,.ref tc] H Q:=by
 cases x with
 | «at» x=>exact s6 m r ht h
 | arr xs=>
  refine aq r λa vs r=>r.1▸m.run 9 rfl rfl rfl (lJ m r.2.2.1 ?_)
  refine cB (q:=RA) (aH r.2.2.1) r.2.1.1 (oA tbl) (λzz zz zz zz f z=>z.mono f) r.2.2.2 (r.2.2.2.len▸aaI (ii ok)) (λv w H' C N rv f y=>mG rv.set (s6 m (rv.mono f) (f.keep Mn ht) y)) λH' a' vs f le lt e l=>h _ _ f (bH a' vs ⟨rfl,⟨lt,le⟩,e,l⟩)
theorem RV.isNone {v:AV} {x:Va} (r:RV P H v x):v.isNone=x.nul:=by
 cases x with
 | «at» x=>cases x with
  | none=>subst r;rfl
  | _=>exact RV.bJ (P:=P) (x:= .at _) r nofun
 | arr=>exact r.bJ nofun
theorem qS {d:Di} {es:List (AV × AV)} (e:H.g a= .dict es) (l:L2 (RE P H) es d):eX (H.g a)=some (bI d):=by
 rw [e]
 show (bif es.all _ then some (es.map (·.1)) else _)=_
 rw [aaX.mpr λx hx=>(l.mem hx).elim λzz q=>q.2.1▸rfl,jU l];rfl
theorem gu {d:Di}:L2 (λv (x:String × Va)=>v=AV.str x.1/\x∈d) (bI d) d:=L2.mJ (r:=λv (x:String × Va)=>v=AV.str x.1/\x∈d) (L2.diag λzz hx=>⟨rfl,hx⟩)
theorem dC {d:Di}:(bI d).length=d.length:=aaB _
theorem tL (m:aQ G) {d:Di} {tbl:List (Int × Int)} (r:RD P H a d) (ok:eI d) (Mn:tc < H.n) (ht:H.g tc= .dict (dt tbl)) (h:vV (bw H.n) Q H (jt tbl d)):G (k+4) "renumbered" [.ref a,.ref tc] H Q:=by
 refine r.ex.elim λes l=>m.run 9 rfl rfl rfl (lm m l.1 ?_)
 have ld:=aaI (gA ok.1)
 refine cB (q:=fC (bw H.n)) (qS l.1 l.2) r.lt (λx:String × Va=>(x.1,ib tbl x.2)) (λzz zz zz zz f z=>z.mn f) gu (dC▸ld) (λv x H' C N rv f y=>?_) λH1 b vs f1 le lt e1 l1=>?_
 .obtain rfl:=rv.1
  exact (r.mn f).idx (ch r.nd rv.2) λu ru=>GS m ru (ok.2 _ rv.2).2 (f.lt Mn) (f.keep Mn ht) λH2 v' f2 r2=>y _ _ f2 ⟨v',rfl,r2.mono (.refl:ai aJ _ _) λzz zz h=>⟨id,aaw f.le h⟩⟩
 .refine dB (q:=fC (bw H.n)) (aH e1) lt id (λx=>!x.2.nul) (λzz zz zz zz f z=>z.mn f) l1 (by rw [l1.len,aaB];exact ld) (λv x H' C N rv f y n=>?_) λH2 b2 JU f2 qA lD e2 l2=>?_
  .refine rv.elim λu q=>?_
   clear rv;obtain rfl:=q.1
   refine Dt (λe=>?_) λe=>n (by rw [<-e,q.2.isNone])
   refine mG (v:= .tup _) nofun (y (by rw [<-e,q.2.isNone]) _ _ .refl ⟨u,rfl,q.2.mn f⟩)
  .rw [aby] at l2
   exact iS e2 l2 (((List.filter_sublist.map _).trans (by rw [aa5];exact .refl _)).nodup r.nd) (f1.tr f2).le λH3 c f3 A1 rd=>h H3 c ((f1.tr f2).tr f3) (aaw (f1.tr f2).le A1) rd
theorem IQ (m:aQ G) {v:AV} {o:Ob} {tbl:List (Int × Int)} (r:RO P H v o) (ok:de o) (Mn:tc < H.n) (ht:H.g tc= .dict (dt tbl)) (h:∀H' v',ai aJ H H'->RO (bw H.n) H' v' (BM tbl o)->Q v' H'):G (k+6) "renumbered" [v,.ref tc] H Q:=by
 cases o with
 | null=>exact s6 m (x:= .none) r ht h
 | dict d=>exact r.elim λa q=>q.1▸tL m q.2 ok Mn ht λH' a' f zz rd=>h _ _ f ⟨a',rfl,rd⟩
 | stream d b=>
  refine aq r λa hd q=>q.1▸m.run 9 rfl rfl rfl (g7 m q.2.1.2 (ad q.2.1.2 (tL m q.2.2 ok Mn ht λH' a' f zz rd=>?_)))
  exact ad (f.fix q.2.1.1 q.2.1.2 rfl) (ji m λH1 f1 n1 e1=>h H1 _ (f.tr f1) (bH _ a' ⟨rfl,⟨n1▸aaC _,e1⟩,rd.mn f1⟩))
end
noncomputable def cJ (k:String) (v:Va):Di->Di
 | []=>[(k,v)]
 | e::r=>bif e.1==k then (e.1,v)::r else e::cJ k v r
section
variable {k k':String} {v w:Va} {d:Di}
theorem jL:cJ k v ((k,w)::d)=(k,v)::d:=by show (bif _ then _ else _)=_;rw [beq_self_eq_true];rfl
theorem jX (h:k'≠k):cJ k v ((k',w)::d)=(k',w)::cJ k v d:=by show (bif _ then _ else _)=_;rw [beq_eq_false_iff_ne.mpr h];rfl
theorem az:look k' (cJ k v d)=if k=k' then some v else look k' d:=by
 induction d with
 | nil=>
  by_cases q:k=k'
  .rw [q,if_pos rfl];exact aY
  .rw [if_neg q];exact aL q
 | cons e r ih=>
  obtain ⟨j,w⟩:=e
  by_cases q:j=k
  .rw [q,jL]
   by_cases q2:k=k'
   .rw [q2,if_pos rfl,aY]
   .rw [if_neg q2,aL q2,aL q2]
  .rw [jX q]
   by_cases q2:j=k'
   .rw [q2,aY,if_neg λz=>q (q2.trans z.symm),aY]
   .rw [aL q2,ih,aL q2]
theorem BD {x:String}:x∈(cJ k v d).map (·.1) ↔ x=k\/x∈d.map (·.1):=by
 induction d with
 | nil=>exact aaH
 | cons e r ih=>
  obtain ⟨j,w⟩:=e
  by_cases q:j=k
  .rw [q,jL];exact ⟨.inr,λh=>h.elim (λz=>z▸ .head _) id⟩
  .rw [jX q,aa4,aaH,ih,aa4,aaH];exact or_left_comm
theorem c5 (h:(d.map (·.1)).Nodup):((cJ k v d).map (·.1)).Nodup:=by
 induction d with
 | nil=>exact abu _ _
 | cons e r ih=>
  obtain ⟨j,w⟩:=e
  by_cases q:j=k
  .rw [q,jL];rwa [q] at h
  .have h:=aa8.mp h
   rw [jX q]
   exact aa8.mpr ⟨λz=>(BD.mp z).elim q h.1,ih h.2⟩
theorem b3:(cJ k v d).length<=d.length+1:=by
 induction d with
 | nil=>exact aaF _
 | cons e r ih=>
  show (bif _ then _ else _:Di).length<=_
  cases e.1==k with
  | true=>exact aba _
  | false=>exact aa1 ih
end
structure aW where
 n:Int
 d:Di
 aR:Di
 pg:Bool
noncomputable def y0 (b hd:Nat) (ab:AV) (ih:Nat) (pg:Bool):AO:= .inst "Spot" [("reference",.ref b),("head",.ref hd),("above",ab),("inherited",.ref ih),("is_page",.bool pg)]
noncomputable def ax:List String:=["Resources","MediaBox","CropBox","Rotate"]
noncomputable def eY (d:Di) (aR:Di) (key:String):Di:=((look key d).map λva=>cJ key va aR).getD aR
noncomputable def cI (d aR:Di):Di:=ax.foldl (eY d) aR
noncomputable def JL (tab:List (Int × Ob)):Va->Prop
 | .at .none=>False
 | .at (.ref n)=>∃o,ah n tab=some o/\o≠ .null
 | _=>True
noncomputable def qR (tab:List (Int × Ob)) (d:Di):Prop:=∀key∈ax,∀va,look key d=some va->JL tab va
noncomputable def yt (d:Di) (b:Bool):Prop:=(look "Type" d=some (.at (.name "Pages"))/\b=true)\/(look "Type" d=some (.at (.name "Page"))/\b=false)\/(look "Type" d= .none/\look "Kids" d= .none/\b=false)
noncomputable def bf (P:Nat->Prop) (n:Nat):Nat->Prop:=λx=>P x\/n<=x
section
variable {G:Nat->aj} {H H0 H':HP} {Q:KV} {QS:KS} {k a s t:Nat} {P S:Nat->Prop} {loc:Loc} {tab:List (Int × Ob)} {tr d:Di}
theorem ai.up (x:ai aJ H0 H) (f:ai (atS a) H H') (h:H0.n<=a):ai aJ H0 H':=x.new (f.own h)
theorem RD.fA (P':Nat->Prop) (r:RD P H a d) (h:∀x,x < H.n->P x->P' x):RD P' H a d:=r.mono (.refl:ai aJ H H) λx hx z=>⟨id,h x hx z⟩
theorem RV.fA {P':Nat->Prop} {v:AV} {x:Va} (r:RV P H v x) (h:∀x,x < H.n->P x->P' x):RV P' H v x:=r.mono (.refl:ai aJ H H) λx hx z=>⟨id,h x hx z⟩
theorem ze {key:String} {u:AV} {va:Va} (hu:RV P H u va) {es:List (AV × AV)} (l:L2 (RE P H) es d):L2 (RE P H) (bS (.str key) u es) (cJ key va d):=l.rec (.cons ⟨rfl,hu⟩ .nil) λ{e x zz zz} r l ih=>by
 show L2 _ (bif i8 e.1 _ then _ else _) (bif x.1==key then _ else _)
 rw [r.1]
 show L2 _ (bif decide (x.1=key) then (AV.str x.1,u)::_ else _) (bif decide (x.1=key) then _ else _)
 exact match decide (x.1=key) with
  | true=>.cons ⟨rfl,hu⟩ l
  | false=>.cons r ih
theorem RV.upd {es:List (AV × AV)} (f:ai (atS a) H H') (e:H.g a= .dict es) {v:AV} {x:Va} (r:RV P H v x):RV P H' v x:=by
 cases x with
 | «at» x=>exact RA.mono f r
 | arr xs=>exact aq r λb vs r=>(bH b vs ⟨r.1,⟨f.lt r.2.1.1,r.2.1.2⟩,f.ne r.2.1.1 r.2.2.1 (λz=>nomatch (z▸r.2.2.1).symm.trans e),r.2.2.2.imp λzz zz r=>r.mono f⟩)
theorem RD.set (r:RD P H a d) {key:String} {u:AV} {va:Va} (hu:RV P H u va) (hl:d.length < lim) {F:HP->Prop} (k:∀H',ai (atS a) H H'->H'.n=H.n->RD P H' a (cJ key va d)->F H'):ob (H.g a) (wi a (.str key) u H F):=
 r.at λes e l=>⟨dy l,l.len▸hl,ng e λH' f n e'=>k H' f n ⟨n▸r.lt,r.zone,⟨_,e',(ze hu l).imp λzz zz q=>⟨q.1,q.2.upd f e⟩⟩,c5 r.nd⟩⟩
theorem RO.bJ {v:AV} {o:Ob} (r:RO P H v o) (h:o≠ .null):v.isNone=false:=by
 cases o with
 | null=>exact absurd rfl h
 | dict=>exact r.elim λzz r=>r.1▸rfl
 | stream=>exact aq r λzz zz r=>r.1▸rfl
theorem z7 (m:aQ G) {b:Nat} {key:String} (rs:RS P H s t tab tr) (rd:RD P H b d) (hs:∀va,look key d=some va->JL tab va) (h:∀v,v.isNone=(look key d).isNone->Q v H):G (k+2) "Lookup.get" [.ref s,.ref b,.str key] H Q:=by
 cases hk:look key d with
 | none=>exact yW m rs rd hk (h _ (hk▸rfl))
 | some va=>
  have z:=hs va hk
  replace h:=(hk)▸h
  have val:va.isRef=false->va≠ .at .none->G (k+2) "Lookup.get" [.ref s,.ref b,.str key] H Q:=λe n=>nE m rs rd hk e λu ru=>h u (ru.bJ n)
  cases va with
  | arr=>exact val rfl nofun
  | «at» x=>cases x with
   | none=>exact z.elim
   | ref n=>exact z.elim λo z=>tN m rs rd hk z.1 λu ru=>h u (ru.bJ z.2)
   | int=>exact val rfl nofun
   | name=>exact val rfl nofun
theorem Du (m:aQ G) {b hd ih:Nat} {ab:AV} {pg:Bool} (mR:ab≠ .unset) (h:yU Q H (y0 b hd ab ih pg)):tV (G (k+1)) "Spot" [.ref b,.ref hd,ab,.ref ih,.bool pg] H Q:=by
 refine m.run 19 rfl rfl rfl (ad dq (upd.mk (ad bp (upd.mk (mG (v:=ab) mR (ad bp (upd.mk (ad bp (upd.mk (ad bp (upd.mk ?_)))))))))))
 exact ⟨rfl,h _ (((((ai.push.re (aaF _)).re (aaF _)).re (aaF _)).re (aaF _)).re (aaF _)) rfl bp⟩
theorem Bz (m:aQ G) {b:Nat} {n:Int} {o:Ob} (rs:RS P H s t tab tr) (hb:b < H.n) (e:H.g b=cH n) (hl:ah n tab=some o) (h:∀H',ai aJ H H'->Q (.ref b) H'):G (k+1) "home_of" [.ref s,.ref b] H Q:=by
 refine m.run 20 rfl rfl rfl (cN λH1 f1 n1 e1=>Ni λC hx=>?_)
 have eb:=f1.fix hb e rfl
 refine ad eb (ad eb (ad e1 ⟨⟨abC 1,fm⟩,ad eb (ad e1 ⟨⟨abC 1,fm⟩,(show 0 < lim by decide),ng e1 λH2 f2 n2 e2=>?_⟩)⟩))
 have f:=f1.up f2 (aaF _)
 have eb:=f.fix hb e rfl
 have rs:=rs.mn f
 refine rs.ins.elim λr e1=>rs.tb.elim λes e2=>((gG e2.2).some hl).elim λv q=>q.2.elim λu w=>?_
 have nr:=w.2.noRef
 exact ad e1.1 (ad e2.1 (ad eb (ad e2.1 ⟨fi e2.2,UW (q.1.trans (congrArg some w.1)) (ad eb (mG nr.set (nr.isin _ (hx.1 _ _ _ (h _ f)))))⟩)))
theorem A4 (m:aQ G) {b:Bool} (rs:RS P H s t tab tr) (rd:RD P H a d) (hn:yt d b) (h:Q (.bool b) H):G (k+3) "is_node" [.ref s,.ref a] H Q:=by
 refine rs.ins.elim λzz e=>m.run 21 rfl rfl rfl (ad e.1 ?_)
 rcases hn with ⟨q,rfl⟩ | ⟨q,rfl⟩ | ⟨q,q2,rfl⟩
 .exact nE m rs rd q rfl λu ru=>ru.elim λb z=>z.1▸ad z.2.2 (ad z.2.2 (ad z.2.2 h))
 .exact nE m rs rd q rfl λu ru=>ru.elim λb z=>z.1▸ad z.2.2 (ad z.2.2 (ad z.2.2 h))
 .exact yW m rs rd q (ad e.1 (yW m rs rd q2 h))
theorem A0 (m:aQ G) {xs:List At} (rs:RS P H s t tab tr) (rd:RD P H a d) (hx:look "Kids" d=some (.arr xs)) (h:∀ka,RV P H (.ref ka) (.arr xs)->Q (.ref ka) H):G (k+3) "kids_of" [.ref s,.ref a] H Q:=by
 refine rs.ins.elim λzz e=>m.run 22 rfl rfl rfl (ad e.1 (nE m rs rd hx rfl λu ru=>aq ru λka vs r=>?_))
 obtain rfl:=r.1
 exact ad r.2.2.1 (h ka (bH ka vs ⟨rfl,r.2⟩))
noncomputable def UP (P:Nat->Prop) (H:HP) (Q:KV) (b:Nat) (ab:AV) (nd:Bool) (d aR:Di):Prop:=∀H' a hd ih,ai aJ H H'->H.n<=a->a < H'.n->H'.g a=y0 b hd ab ih (!nd)->RD P H' hd d->RD (bf P H.n) H' ih (cI d aR)->Q (.ref a) H'
noncomputable def qw (x:String) (loc loc':Loc):Prop:=∀y,(y==x)=false->loc' y=loc y
theorem qw.upd {x:String} {loc loc':Loc} {v:AV} (h:qw x loc loc'):qw x loc (loc'.upd x v):=λy hy=>by rw [<-h y hy];show (bif _ then _ else _)=_;rw [hy];rfl
theorem sd {body:PS} {src:HP->Prop} {Z:Nat->Prop} {H1:HP} {g:Nat} {loc0:Loc} (F:Di->String->Di) (hs:∀H',src H') (hF:∀d key,(F d key).length<=d.length+1)
  (step:∀key cur loc' H' (C:KS),key∈ax->ai aJ H1 H'->RD Z H' g cur->cur.length < lim->qw "key" loc0 loc'->(∀bz,ai aJ H1 bz->RD Z bz g (F cur key)->C .next (loc'.upd "key" (.str key)) bz)->body (loc'.upd "key" (.str key)) H' C) (rest:List String):
  ∀{cur:Di} {loc:Loc} {H:HP},(∀key∈rest,key∈ax)->cur.length+rest.length<=104->ai aJ H1 H->RD Z H g cur->qw "key" loc0 loc->(∀loc' H',ai aJ H1 H'->RD Z H' g (rest.foldl F cur)->qw "key" loc0 loc'->QS .next loc' H')->∀{vs:List AV},vs=rest.map .str->k9 body (.nm "key") src vs loc H QS:=by
 induction rest with
 | nil=>exact λzz zz f r l hQ vs e=>e▸hQ _ _ f r l
 | cons key rest ih=>
  exact λhm hl f r l hQ vs e=>e▸step key _ _ _ _ (hm _ (.head _)) f r (aaz (aaw (aaM ..) hl) (by decide)) l λbz f' r'=>⟨hs _,ih (λx hx=>hm x (.tail _ hx)) (aaw (abb (hF _ _) _) (by rwa [aa9,abg 1])) f' r' l.upd hQ rfl⟩
theorem Fu {d:Di} (i:Di) (key:String):(eY d i key).length<=i.length+1:=by
 unfold eY
 cases look key d with
 | none=>exact aba _
 | some va=>exact b3
theorem Pg (m:aQ G) {b ia:Nat} {aR:Di} {n:Int} {nd:Bool} {ab:AV} (rs:RS P H s t tab tr) (hb:b < H.n) (e:H.g b=cH n) (hl:ah n tab=some (.dict d)) (ri:RD P H ia aR) (hn:yt d nd) (hi:qR tab d) (mR:ab≠ .unset) (PJ:aR.length<=100)
  (h:UP P H Q b ab nd d aR):G (k+4) "met" [.ref s,.ref b,ab,.ref ia] H Q:=by
 refine m.run 23 rfl rfl rfl (Bz m rs hb e hl λH1 f1=>?_)
 have Cp:=rs.mn f1
 refine Cp.ins.elim λzz es=>ad es.1 (hO m Cp (f1.fix hb e rfl) hl λu ru=>ru.elim λhd ru=>?_)
 obtain rfl:=ru.1
 have rd:=ru.2
 refine rd.at λzz zz zz=>(ri.mn f1).at λis ei li=>⟨λx hx=>(li.mem hx).elim λzz q=>q.2.1▸rfl,cN λH2 f2 n2 e2=>?_⟩
 refine sd (Z:=bf P H.n) (H1:=H1) (g:=H1.n) (eY d) (λzz=>And.intro rfl rfl) Fu (λkey cur loc' H3 C hk f3 r3 hl l nx=>?_) ax (cur:=aR) (λzz h=>h) (abb PJ 4) f2 ⟨(n2▸aaC _),.inr f1.le,⟨is,e2,li.imp λzz zz r=>r.mono f2 λzz zz h=>⟨id,.inl h⟩⟩,ri.nd⟩ (λzz zz=>rfl) (λloc' H3 f3 r3 l=>?_) rfl
 .have Fh:=Cp.mn f3
  have Oy:=rd.mn f3
  refine ak (v:= .ref s) (l "shelf" rfl) (Fh.ins.elim λzz RN=>ad RN.1 (ak (v:= .ref hd) (l "head" rfl) (z7 m Fh Oy (hi key hk) λw hw=>?_)))
  unfold eY at nx
  cases vn:look key d with
  | none=>
   rw [vn] at hw nx
   exact rS (congrArg Bool.not hw) (nx _ f3 r3)
  | some va=>
   rw [vn] at hw nx
   exact rS (congrArg Bool.not hw) (ak (v:= .ref hd) (l "head" rfl) (Oy.idx vn λu ru=>ak (v:= .ref H1.n) (l "given" rfl) (r3.set (ru.fA λzz zz h=>.inl h) hl λH4 f4 n4 r4=>nx _ (f3.up f4 (aaF _)) r4)))
 .have Fh:=Cp.mn f3
  have Oy:=rd.mn f3
  exact ak (v:= .ref b) (l "reference" rfl) (ak (v:= .ref hd) (l "head" rfl) (ak (v:=ab) (l "above" rfl) (mG mR (ak (v:= .ref H1.n) (l "given" rfl) (ak (v:= .ref s) (l "shelf" rfl) (ak (v:= .ref hd) (l "head" rfl) (A4 m Fh Oy hn (Rq (Du m mR λH4 f4 n4 e4=>h H4 _ hd H1.n ((f1.tr f3).tr f4) (aaw f1.le f3.le) (n4▸aaC _) e4 (Oy.mn f4) (r3.mn f4))))))))))
end
noncomputable def Ks (x:aW) (ns:List Int):Prop:=(x.pg=true/\ns=[])\/(x.pg=false/\look "Kids" x.d=some (.arr (ns.map At.ref)))
structure Vo (tab:List (Int × Ob)) (x:aW) (aR:Di) (ns:List Int):Prop where
 tb:ah x.n tab=some (.dict x.d)
 nd:yt x.d (!x.pg)
 ok:qR tab x.d
 len:aR.length < 90
 aR:x.aR=cI x.d aR
 kids:Ks x ns
noncomputable def Wk (tab:List (Int × Ob)):List (Int × Di)->List aW->Prop
 | st,[]=>st=[]
 | st,x::sp=>∃aR i7 ns,st=(x.n,aR)::i7/\Vo tab x aR ns/\Wk tab (ns.map (λn=>(n,x.aR))++i7) sp
structure Tree (tab:List (Int × Ob)) (tr:Di) (sp:List aW):Prop where
 ex:∃cn cd r,(look "Root" tr=some (.at (.ref cn))/\ah cn tab=some (.dict cd))/\look "Pages" cd=some (.at (.ref r))/\Wk tab [(r,[])] sp
 nd:(sp.map (·.n)).Nodup
 len:sp.length < 1000
 hd:∀x DU,sp=x::DU->x.pg=false
theorem Wk.len {tab:List (Int × Ob)} {sp:List aW}:∀{st:List (Int × Di)},Wk tab st sp->st.length<=sp.length:=by
 induction sp with
 | nil=>exact λh=>h▸aaF _
 | cons x sp ih=>
  exact λh=>bj h λaR i7 ns h=>h.1▸aa1 (aaw (by rw [aaD];exact abn ..) (ih h.2.2))
section
variable {G:Nat->aj} {H H0 H':HP} {Q:KV} {QS:KS} {k a s t:Nat} {P P' S:Nat->Prop} {loc:Loc} {tab:List (Int × Ob)} {tr d:Di}
structure Yw (P:Nat->Prop) (H:HP) (m b:Nat) (ab:List AV) (ia:Nat) (x:Int × Di):Prop where
 lt:b < H.n
 at_:H.g b=cH x.1
 rd:RD P H ia x.2
 len:ab.length<=m
noncomputable def Gu (P:Nat->Prop) (H:HP) (m:Nat) (v:AV) (x:Int × Di):Prop:=∃b ab ia,v= .tup [.ref b,.tup ab,.ref ia]/\Yw P H m b ab ia x
theorem Gu.mono {m m':Nat} (f:ai S H H') (hp:cX S P P' H) (hm:m<=m') {v:AV} {x:Int × Di} (r:Gu P H m v x):Gu P' H' m' v x:=
 r.imp λzz r=>r.imp λzz r=>r.imp λzz r=>⟨r.1,f.lt r.2.lt,f.fix r.2.lt r.2.at_ rfl,r.2.rd.mono f hp,aaw r.2.len hm⟩
structure JG (P:Nat->Prop) (H:HP) (a b hd:Nat) (ab:AV) (ih:Nat) (x:aW):Prop where
 lt:a < H.n
 at_:H.g a=y0 b hd ab ih x.pg
 JT:b < H.n
 Gn:H.g b=cH x.n
 rd:RD P H hd x.d
 ri:RD P H ih x.aR
theorem JG.mono (f:ai S H H') (hp:cX S P P' H) {b hd ih:Nat} {ab:AV} {x:aW} (r:JG P H a b hd ab ih x):JG P' H' a b hd ab ih x:=⟨f.lt r.lt,f.fix r.lt r.at_ rfl,f.lt r.JT,f.fix r.JT r.Gn rfl,r.rd.mono f hp,r.ri.mono f hp⟩
noncomputable def fj (P:Nat->Prop) (H:HP) (v:AV) (x:aW):Prop:=∃a b hd ab ih,v= .ref a/\JG P H a b hd ab ih x
theorem fj.mono (f:ai S H H') (hp:cX S P P' H) {v:AV} {x:aW} (r:fj P H v x):fj P' H' v x:=r.imp λzz r=>r.imp λzz r=>r.imp λzz r=>r.imp λzz r=>r.imp λzz r=>⟨r.1,r.2.mono f hp⟩
theorem AQ {n:Nat} {all:List AV} (f:ai S H H') (ha:a < H.n) (hs:¬S a) (h:ck (.rev a) all n H):ck (.rev a) all n H':=by
 show mC _=_/\_
 exact ((f.same a ha hs).1)▸h
theorem L2.EG {α β γ:Type} {r:α->γ->Prop} {f:β->γ} {m:List β}:∀{l:List α},L2 r l (m.map f)->L2 (λa b=>r a (f b)) l m:=by
 induction m with
 | nil=>exact λh=>h.df▸ .nil
 | cons b m ih=>exact λh=>aq h.aX λa l' q=>q.1▸ .cons q.2.1 (ih q.2.2)
structure FD where
 Z:Nat->Prop
 H:HP
 la:Nat
 a:Nat
 b:Nat
 hd:Nat
 ab:List AV
 ih:Nat
 x:aW
 M:Nat
 target:List (Int × Di)
 loc:Loc
structure Qk (c:FD):Prop where
 sp:JG c.Z c.H c.a c.b c.hd (.tup c.ab) c.ih c.x
 Z7:c.la < c.H.n
 T7:∀x,c.Z x->x≠c.la
 hM:c.ab.length < c.M/\c.M < 2000/\c.target.length < 3000
 l1:c.loc "spot"= .ref c.a
 l2:c.loc "line"= .ref c.la
 l3:c.loc "above"= .tup c.ab
structure SQ (c:FD) (rest:List Int) (ls:List AV) (cur:List (Int × Di)) (vs:List AV) (loc:Loc) (H':HP):Prop where
 aD:ai (atS c.la) c.H H'
 gl:H'.g c.la= .list ls
 rl:L2 (Gu c.Z H' c.M) ls cur
 rv:L2 (λv n=>jJ c.H v (cH n)) vs rest
 eq:cur++rest.map (λn=>(n,c.x.aR))=c.target
 lo:∀x,(x=="kid")=false->loc x=c.loc x
noncomputable def Sk (c:FD) (vs:List AV) (loc:Loc) (H':HP):Prop:=∃rest ls cur,SQ c rest ls cur vs loc H'
noncomputable def TW (c:FD) (QS:KS):Prop:=∀loc' H' ls,ai (atS c.la) c.H H'->H'.g c.la= .list ls->L2 (Gu c.Z H' c.M) ls c.target->(∀x,(x=="kid")=false->loc' x=c.loc x)->QS .next loc' H'
theorem Cj (m:aQ G) (c:FD) (ok:Qk c) (rs:RS c.Z c.H s t tab tr) {ns:List Int} (hx:look "Kids" c.x.d=some (.arr (ns.map At.ref))) (l0:c.loc "shelf"= .ref s) {ls:List AV} {cur:List (Int × Di)} (hl:c.H.g c.la= .list ls) (rl:L2 (Gu c.Z c.H c.M) ls cur) (ht:cur++ns.reverse.map (λn=>(n,c.x.aR))=c.target)
  (h:TW c QS):Pap.S.bW (.nm "kid") .rev (.o (.call "kids_of" (.cons (.loc "shelf") (.o (.fld (.loc "spot") "head"))))) (.o (.expr (.ay (.loc "line") "append" (.o (.tup (.cons (.loc "kid") (.cons (.bin .add (.loc "above") (.tup (.o (.fld (.loc "spot") "reference")))) (.o (.fld (.loc "spot") "inherited"))))))))) (G (k+3)) c.loc c.H QS:=by
 have sp:=ok.sp
 refine ak l0 (ak ok.l1 (ad sp.at_ (A0 m rs sp.rd hx λka rk=>aq rk λka' vs r=>?_)))
 cases r.1
 have rk:=r.2
 refine dF (v:=vs.reverse) (by show mC (c.H.g ka)=_;rw [rk.2.1];rfl) (Et (Sk c) ?_ _ _ _ (cZ ns.reverse ls cur ⟨.refl,hl,rl,rk.2.2.EG.rev,ht,λzz zz=>rfl⟩) λloc' H' I=>bj I λrest ls cur q=>?_)
 .refine λv vs' loc' H' C I hN=>bj I λrest ls cur q=>?_
  clear I;cases rest with
  | nil=>cases q.rv
  | cons n rest=>
  have rv:=q.rv.inv
  refine rv.1.elim λb w=>?_
  obtain rfl:=w.1
  have ea:=q.aD.fix sp.lt sp.at_ rfl
  refine ak ((q.lo _ rfl).trans ok.l2) (ad q.gl (ak ((q.lo _ rfl).trans ok.l3) (ak ((q.lo _ rfl).trans ok.l1) (ad ea ⟨aaw (Nat.succ_le_of_lt ok.hM.1) (aaw (aaI ok.hM.2.1) (by decide)),ak ((q.lo _ rfl).trans ok.l1) (ad ea (BF q.gl (q.rl.len▸aaA (aaz (aaw (aaM ..) (aaS (by rw [<-aaD,q.eq]))) ok.hM.2.2) (by decide)) λH2 f2 n2 e2=>?_))⟩))))
  have f:=q.aD.tr f2
  refine hN _ _ (AQ f rk.1.1 (ok.T7 _ rk.1.2) ⟨by show mC (c.H.g ka)=_;rw [rk.2.1];rfl,rfl⟩) (cZ rest _ (cur++[(n,c.x.aR)]) ⟨f,e2,(q.rl.imp λzz zz r=>Gu.mono f2 (λx zz z=>⟨ok.T7 x z,z⟩) (aaF _) r).snoc (cZ b _ c.ih ⟨rfl,f.lt w.2.1,f.fix w.2.1 w.2.2 rfl,sp.ri.mono f (λx zz z=>⟨ok.T7 x z,z⟩),?_⟩),rv.2,?_,λx hx=>?_⟩)
  .rw [aaD];exact ok.hM.1
  .have:=q.eq;rwa [aa4,List.append_cons] at this
  .exact Eq.trans (by show (bif x=="kid" then _ else _)=_;rw [hx];rfl) (q.lo x hx)
 .cases rest with
  | cons=>cases q.rv
  | nil=>
  have:=q.eq
  rw [List.map_nil,aaY] at this
  exact h _ _ ls q.aD q.gl (this▸q.rl) q.lo
structure kA where
 P:Nat->Prop
 H:HP
 s:Nat
 t:Nat
 tab:List (Int × Ob)
 tr:Di
 f:Nat
 e:Nat
 l:Nat
 sp:List aW
noncomputable def xX (c:kA):Nat->Prop:=λx=>x=c.f\/x=c.e\/x=c.l
noncomputable def fg (c:kA):Nat->Prop:=λx=>(c.P x/\x < c.H.n)\/(c.H.n<=x/\¬xX c x)
structure jy (c:kA):Prop where
 rs:RS c.P c.H c.s c.t c.tab c.tr
 nd:(c.sp.map (·.n)).Nodup
 len:c.sp.length < 1000
 hd:∀x sp,c.sp=x::sp->x.pg=false
 lf:c.H.n<=c.f
 OH:c.f < c.e
 G1:c.e < c.l
noncomputable def mx (ns:List Int):List (AV × AV):=ns.map λn=>(.int n,.bool true)
structure QT (c:kA) (done sp:List aW) (vs ls:List AV) (st:List (Int × Di)) (loc:Loc) (H':HP):Prop where
 aD:ai aJ c.H H'
 lt:c.l < H'.n
 l0:loc "shelf"= .ref c.s
 l1:loc "found"= .ref c.f
 l2:loc "seen"= .ref c.e
 l3:loc "line"= .ref c.l
 eq:c.sp=done++sp
 wk:Wk c.tab st sp
 gf:H'.g c.f= .list vs
 rf:L2 (fj (fg c) H') vs done
 ge:H'.g c.e= .dict (mx (done.map (·.n)))
 gl:H'.g c.l= .list ls
 rl:L2 (Gu (fg c) H' done.length) ls st.reverse
noncomputable def JA (c:kA) (j:Nat) (loc:Loc) (H':HP):Prop:=∃done sp vs ls st,sp.length=j/\QT c done sp vs ls st loc H'
section
variable {c:kA}
theorem jy.m4 (ok:jy c):c.f < c.l:=aaA ok.OH ok.G1
theorem hK (ok:jy c) {x:Nat} (h:fg c x):¬xX c x:=λq=>h.elim (λh=>q.elim (λe=>Nat.not_le.mpr h.2 (e▸ok.lf)) λq=>q.elim (λe=>Nat.not_le.mpr h.2 (e▸aaw ok.lf (aaI ok.OH))) λe=>Nat.not_le.mpr h.2 (e▸aaw ok.lf (aaI ok.m4))) λh=>h.2 q
theorem Gb (ok:jy c) {H:HP}:cX (xX c) (fg c) (fg c) H:=λzz zz h=>⟨hK ok h,h⟩
theorem Kj (ok:jy c) {S:Nat->Prop} {H H':HP} (x:ai aJ c.H H) (f:ai S H H') (h:∀a,S a->xX c a):ai aJ c.H H':=x.trans f λzz ha q=>(h _ q).elim (λe=>Nat.not_le.mpr ha (e▸ok.lf)) λq=>q.elim (λe=>Nat.not_le.mpr ha (e▸aaw ok.lf (aaI ok.OH))) λe=>Nat.not_le.mpr ha (e▸aaw ok.lf (aaI ok.m4))
theorem ur {ns:List Int} {n:Int}:bB (.int n) (mx ns):=⟨abC 1,λe he=>(aaG.mp he).elim λx q=>q.2▸rfl⟩
theorem u3 {ns:List Int} {n:Int}:AV.int n∈(mx ns).map (·.1) ↔ n∈ns:=by
 rw [mx,aa5]
 exact ⟨λh=>(aaG.mp h).elim λx q=>AV.int.inj q.2▸q.1,λh=>aaG.mpr ⟨n,h,rfl⟩⟩
end
noncomputable def DJ (P:Nat->Prop) (H:HP) (Q:KV) (sp:List aW):Prop:=∀H' a vs,ai aJ H H'->H.n<=a->a < H'.n->H'.g a= .list vs->L2 (fj (bf P H.n) H') vs sp->Q (.ref a) H'
end
section
variable {G:Nat->aj} {H H0 H':HP} {Q:KV} {QS:KS} {k a s t:Nat} {P P' S:Nat->Prop} {loc:Loc} {tab:List (Int × Ob)} {tr d:Di} {c:kA}
structure NQ (c:kA) (done sp:List aW) (i7:List (Int × Di)) (x:aW) (a:Nat) (ls0:List AV) (loc:Loc) (H':HP):Prop where
 aD:ai aJ c.H H'
 lt:c.l < H'.n
 l0:loc "shelf"= .ref c.s
 l1:loc "found"= .ref c.f
 l2:loc "seen"= .ref c.e
 l3:loc "line"= .ref c.l
 ls:loc "spot"= .ref a
 eq:c.sp=(done++[x])++sp
 ex:∃vs b hd ab ih,H'.g c.f= .list vs/\L2 (fj (fg c) H') vs (done++[x])/\(ab.length<=done.length/\loc "above"= .tup ab)/\JG (fg c) H' a b hd (.tup ab) ih x
 ge:H'.g c.e= .dict (mx ((done++[x]).map (·.n)))
 gl:H'.g c.l= .list ls0
 rl:L2 (Gu (fg c) H' (done.length+1)) ls0 i7.reverse
theorem xN (m:aQ G) (ok:jy c) {done sp:List aW} {i7:List (Int × Di)} {x:aW} {ls0:List AV} {aR:Di} {ns:List Int} (I:NQ c done sp i7 x a ls0 loc H') (w:Vo c.tab x aR ns) (wk:Wk c.tab (ns.map (λn=>(n,x.aR))++i7) sp)
  {C:KS} (hN:∀loc' H',JA c sp.length loc' H'->C .next loc' H'):SL.o (.bA (.not (.fld (.loc "spot") "is_page")) (.o (.bW (.nm "kid") .rev (.o (.call "kids_of" (.cons (.loc "shelf") (.o (.fld (.loc "spot") "head"))))) (.o (.expr (.ay (.loc "line") "append" (.o (.tup (.cons (.loc "kid") (.cons (.bin .add (.loc "above") (.tup (.o (.fld (.loc "spot") "reference")))) (.o (.fld (.loc "spot") "inherited"))))))))))) .nil) (G (k+3)) loc H' C:=by
 refine kE I.ex λvs b hd ab ih q=>?_
 have WN:=q.2.2.2
 have dl:(done++[x]).length=done.length+1:=aaD
 refine ak I.ls (ad WN.at_ ?_)
 have hk:=w.kids
 cases hp:x.pg with
 | true=>
  have e:ns=[]:=hk.elim (λz=>z.2) λz=>nomatch hp.symm.trans z.1
  rw [e] at wk
  exact hN _ _ (pP (done++[x]) sp vs ls0 i7 ⟨rfl,I.aD,I.lt,I.l0,I.l1,I.l2,I.l3,I.eq,wk,q.1,q.2.1,I.ge,I.gl,dl▸I.rl⟩)
 | false=>
  have e:=hk.elim (λz=>nomatch hp.symm.trans z.1) λz=>z.2
  have h1:=congrArg List.length I.eq
  rw [aaD,dl] at h1
  have h3:=ok.len
  refine Cj m ⟨fg c,H',c.l,a,b,hd,ab,ih,x,done.length+1,(ns.map (λn=>(n,x.aR))++i7).reverse,loc⟩ ⟨WN,I.lt,λy hy e=>hK ok hy (.inr (.inr e)),⟨Nat.lt_succ_of_le q.2.2.1.1,by show done.length+1 < 2000;exact aaz (aaM _ _) (aaA (Rf h1.symm h3) (by decide:1000 < 2000)),by show List.length (List.reverse _) < 3000;rw [List.length_reverse];exact aaz (aaw wk.len (aaw (abn _ _) (aaS h1.symm))) (aaA h3 (by decide))⟩,I.ls,I.l3,q.2.2.1.2⟩
   (ok.rs.mono I.aD (λy hy z=>⟨id,.inl ⟨z,hy⟩⟩) id id) e I.l0 I.gl I.rl (show (ns.map (λn=>(n,x.aR))++i7).reverse=i7.reverse++ns.reverse.map λn=>(n,x.aR) from by rw [List.reverse_append,List.map_reverse]).symm λloc' H2 ls f g r l=>?_
  refine hN _ _ (pP (done++[x]) sp vs ls _ ⟨rfl,Kj ok I.aD f λy e=>.inr (.inr e),f.lt I.lt,(l _ rfl).trans I.l0,(l _ rfl).trans I.l1,(l _ rfl).trans I.l2,(l _ rfl).trans I.l3,I.eq,wk,f.ne (aaA ok.m4 I.lt) q.1 (aaJ ok.m4),q.2.1.imp λzz zz r=>fj.mono f (λy zz z=>⟨λe=>hK ok z (.inr (.inr e)),z⟩) r,f.ne (aaA ok.G1 I.lt) I.ge (aaJ ok.G1),g,dl▸r⟩)
theorem zR (m:aQ G) {sp:List aW} (rs:RS P H s t tab tr) (T:Tree tab tr sp) (hQ:DJ P H Q sp):G (k+5) "spots" [.ref s] H Q:=by
 refine bj T.ex λcn cd r z=>?_
 have wk:=z.2.2
 refine m.run 24 rfl rfl rfl (cN λH1 f1 n1 e1=>cN λH2 f2 n2 e2=>?_)
 have oW:=f1.tr f2
 have M1:=rs.mn oW
 refine M1.ins.elim λzz es=>ad es.1 (sY m M1 z.1.1 z.1.2 λca M0=>M0.at λzz zz zz=>M0.Hx z.2.1 λu ru=>ru.elim λb w=>?_)
 rw [w.1]
 refine cN λH3 f3 n3 e3=>cN λH4 f4 n4 e4=>?_
 have qP:H.n < H1.n:=n1▸aaC _
 have wW:H1.n < H2.n:=n2▸aaC _
 have Hl:H2.n < H3.n:=n3▸aaC _
 have Xm:H3.n < H4.n:=n4▸aaC _
 have PL:=f3.tr f4
 refine (λ(c:kA) (e:c=⟨P,H,s,t,tab,tr,H.n,H1.n,H3.n,sp⟩)=>?_) _ rfl
 have ok:jy c:=e▸⟨rs,T.nd,T.len,T.hd,aaF _,qP,aaA wW Hl⟩
 have hQ:DJ c.P c.H Q c.sp:=e▸hQ
 refine Rz (JA c) sp.length (e▸(pP ([]) sp ([]) ([.tup [.ref b,.tup [],.ref H2.n]]) ([(r,[])]) ⟨rfl,oW.tr PL,Xm,rfl,rfl,rfl,rfl,rfl,wk,(f2.tr PL).keep qP e1,.nil,PL.keep wW e2,e4,.cons (cZ b ([]) H2.n ⟨rfl,PL.lt w.2.1,PL.fix w.2.1 w.2.2 rfl,⟨aaA Hl Xm,.inr ⟨oW.le,λq=>q.elim (λq=>aaN (aaA qP wW) q) λq=>q.elim (λq=>aaN wW q) λq=>aaJ Hl q⟩,⟨[],f4.keep Hl e3,.nil⟩,.nil⟩,aaF _⟩) .nil⟩)) ?_
 clear e wk rs M1 T z
 refine λj loc H' C I hN=>kE I λdone sp vs ls st q=>?_
 have I:=q.2
 refine ak I.l3 ?_
 cases sp with
 | nil=>
  have e:st=[]:=I.wk
  have el:ls=[]:=by have:=I.rl;rw [e] at this;exact this.df
  have eq:=I.eq
  rw [aaY] at eq
  exact ad (I.gl.trans (congrArg AO.list el)) (ak I.l1 (hQ _ _ vs I.aD ok.lf (aaA ok.m4 I.lt) I.gf (eq▸I.rf.imp λzz zz r=>fj.mono (.refl:ai aJ _ _) (λy zz z=>⟨id,z.elim (λz=>.inl z.1) λz=>.inr z.1⟩) r)))
 | cons x sp=>
 refine bj I.wk λaR i7 ns w=>?_
 have w1:=w.2.1
 have rl:=I.rl
 rw [w.1,List.reverse_cons] at rl
 refine rl.J5 (λzz e=>nomatch (List.append_eq_nil_iff.mp e).2) λls0 u ye y e1 e2 r0 ru=>?_
 have e3:=List.append_inj' e2 rfl
 rw [<-e3.1] at r0
 rw [<-(abf e3.2).1] at ru
 refine bj ru λb ab ia q=>?_
 have gl:=I.gl
 rw [e1,q.1] at gl
 refine W0 gl (ak I.l3 (ad gl (Ot gl λH2 f2 n2 e2=>?_)))
 have LS:=Kj ok I.aD f2 λy e=>.inr (.inr e)
 have M1:RS (fg c) H2 c.s c.t c.tab c.tr:=ok.rs.mono LS (λy hy z=>⟨id,.inl ⟨z,hy⟩⟩) id id
 have dl:done.length+(sp.length+1) < 1000:=by have:=ok.len;rwa [I.eq,aaD] at this
 refine ak I.l0 (Pg m M1 (f2.lt q.2.lt) (f2.fix q.2.lt q.2.at_ rfl) w1.tb (q.2.rd.mono f2 (λy zz z=>⟨λe=>hK ok z (.inr (.inr e)),z⟩)) w1.nd w1.ok nofun (aaI (aaA w1.len (by decide))) λH3 a hd ih f3 h1 h2 h3 h4 h5=>?_)
 have Fh:=M1.mn f3
 have k3:cX aJ (fg c) (fg c) H2:=aV
 have B9:c.l < H3.n:=f3.lt (n2▸I.lt)
 have ne1:=aaJ ok.m4
 have ne2:=aaJ ok.G1
 have Qa:=f3.keep (n2▸aaA ok.m4 I.lt) (f2.ne (aaA ok.m4 I.lt) I.gf ne1)
 have Vp:=f3.keep (n2▸aaA ok.G1 I.lt) (f2.ne (aaA ok.G1 I.lt) I.ge ne2)
 have TN:=f3.fix (f2.lt q.2.lt) (f2.fix q.2.lt q.2.at_ rfl) rfl
 have nd:=ok.nd
 rw [I.eq,aaL,abw] at nd
 have fresh:x.n ∉ done.map (·.n):=λz=>nd.2.2 _ z _ (.head _) rfl
 refine ad h3 (ad TN (ak I.l2 (ad Vp ⟨ur,rS (t:=false) (Bool.eq_false_iff.mpr λz=>fresh (u3.mp (getD_some.mp z))) (ak I.l1 (cN λH4 f4 n4 e4=>ad (f4.keep (aaA ok.m4 B9) Qa) (ad e4 ?_)))⟩)))
 have vl:=I.rf.len
 have nz:c.l < H4.n:=f4.lt B9
 have VD:=f4.fix h2 h3 rfl
 have W2:=f4.keep (aaA ok.G1 B9) Vp
 have rest:SL.cons (.b8 (.loc "seen") (.fld (.fld (.loc "spot") "reference") "number") (.bool true)) (.cons (.expr (.ay (.loc "found") "append" (.o (.loc "spot")))) (.o (.bA (.not (.fld (.loc "spot") "is_page")) (.o (.bW (.nm "kid") .rev (.o (.call "kids_of" (.cons (.loc "shelf") (.o (.fld (.loc "spot") "head"))))) (.o (.expr (.ay (.loc "line") "append" (.o (.tup (.cons (.loc "kid") (.cons (.bin .add (.loc "above") (.tup (.o (.fld (.loc "spot") "reference")))) (.o (.fld (.loc "spot") "inherited"))))))))))) .nil))) (G (k+4)) ((((loc.upd "value" (.ref b)).upd "above" (.tup ab)).upd "inherited" (.ref ia)).upd "spot" (.ref a)) H4 C:=by
  refine ak I.l2 (ad VD (ad (f4.fix (f3.lt (f2.lt q.2.lt)) TN rfl) (ad W2 ⟨ur,by rw [mx,aaB,aaB];exact aaA (aaz (aaM ..) dl) (by decide),ng W2 λH5 f5 n5 e5=>?_⟩)))
  have Xg:=f5.ne (aaA ok.m4 nz) (f4.keep (aaA ok.m4 B9) Qa) (aaJ ok.OH)
  refine ak I.l1 (ad Xg (BF Xg (vl▸aaA (aaz (aaM ..) dl) (by decide)) λH6 f6 n6 e6=>?_))
  have SK:ai (xX c) H4 H6:=(f5.weak λzz zz e=>.inr (.inl e)).trans f6 λzz zz e=>.inl e
  have Lp:ai (xX c) H3 H6:=f4.no.trans SK λzz zz e=>e
  have MY:ai (xX c) H' H6:=(f2.weak λzz zz e=>.inr (.inr e)).trans (f3.no.trans Lp λzz zz e=>e) λzz zz e=>e
  have zw:∀y,bf (fg c) H2.n y->fg c y:=λy z=>z.elim id λz=>.inr ⟨aaw LS.le z,λq=>q.elim (λe=>aaP.mpr z (e▸n2▸aaA ok.m4 I.lt)) λq=>q.elim (λe=>aaP.mpr z (e▸n2▸aaA ok.G1 I.lt)) λe=>aaP.mpr z (e▸n2▸I.lt)⟩
  have sb:JG (fg c) H6 a b hd (.tup ab) ih x:=⟨Lp.lt h2,by have:=Lp.fix h2 h3 rfl;rwa [Bool.not_not] at this,Lp.lt (f3.lt (f2.lt q.2.lt)),Lp.fix (f3.lt (f2.lt q.2.lt)) TN rfl,h4.mono Lp (Gb ok),w1.aR▸h5.mono Lp λy hy z=>⟨hK ok (zw y z),zw y z⟩⟩
  .refine xN (k:=k+1) (a:=a) (ls0:=ls0) (done:=done) (loc:=(((loc.upd "value" (.ref b)).upd "above" (.tup ab)).upd "inherited" (.ref ia)).upd "spot" (.ref a)) (H':=H6) m ok ?_ w1 w.2.2 λloc' H' J=>hN _ _ _ (by exact ((show List.length (x::sp)=j from (by assumption:_/\_).1))▸aaC _) J
   refine ⟨Kj ok ((LS.tr f3).tr f4) SK λzz e=>e,(SK.lt nz),I.l0,I.l1,I.l2,I.l3,rfl,by rw [I.eq,aaW];rfl,(pP _ b hd ab ih ⟨e6,(I.rf.imp λzz zz r=>fj.mono MY (Gb ok) r).snoc (pP a b hd _ ih ⟨rfl,sb⟩),⟨q.2.len,rfl⟩,sb⟩),(f6.ne (n5▸aaA ok.G1 nz) e5 (aaN ok.OH)).trans (congrArg AO.dict ?_),f6.ne (n5▸nz) (f5.ne nz (f4.keep B9 (f3.keep (n2▸I.lt) e2)) (abm ne2)) (abm ne1),r0.imp λzz zz r=>Gu.mono MY (Gb ok) (aba _) r⟩
   rw [dL λz=>fresh (u3.mp z),mx,mx,aaL,aaL];rfl
 by_cases Vf:done=[]
 .have ev:vs=[]:=List.eq_nil_of_length_eq_zero (by rw [vl,Vf];rfl)
  exact .inl ⟨⟨ev,by rw [ev];rfl⟩,ad (o':=y0 b hd (.tup ab) ih false) (VD.trans (by rw [ok.hd x sp (by rw [I.eq,Vf];rfl)];rfl)) rest⟩
 .exact .inr ⟨λz=>Vf (List.eq_nil_of_length_eq_zero (vl▸z)),rest⟩
end
noncomputable def dP (d aR f:Di) (key:String):Di:=match look key d with
 | some _=>f
 | .none=>((look key aR).map λva=>cJ key va f).getD f
noncomputable def iN (d aR:Di):Di:=ax.foldl (dP d aR) d
noncomputable def ar (sp:List aW):List (Int × Di):=(sp.filter (·.pg)).map λx=>(x.n,iN x.d x.aR)
theorem vh {d aR:Di} (i:Di) (key:String):(dP d aR i key).length<=i.length+1:=by
 unfold dP
 cases look key d with
 | some _=>exact aba _
 | none=>cases look key aR with
  | none=>exact aba _
  | some va=>exact b3
theorem Wk.all {tab:List (Int × Ob)} {sp:List aW}:∀{st:List (Int × Di)},Wk tab st sp->∀x∈sp,ah x.n tab=some (.dict x.d)/\qR tab x.d:=by
 induction sp with
 | nil=>exact λzz=>fm
 | cons y sp ih=>exact λw x hx=>bj w λaR i7 ns w=>(aaH.mp hx).elim (λe=>e▸⟨w.2.1.tb,w.2.1.ok⟩) (ih w.2.2 x)
section
variable {G:Nat->aj} {H H0 H':HP} {Q:KV} {QS:KS} {k a s t:Nat} {P P' S:Nat->Prop} {loc:Loc} {tab:List (Int × Ob)} {tr d:Di} {sp:List aW}
noncomputable def AG (b f:Nat):AO:= .inst "Page" [("reference",.ref b),("fields",.ref f)]
structure KK (P:Nat->Prop) (H:HP) (a b f:Nat) (pg:Int × Di):Prop where
 lt:a < H.n
 at_:H.g a=AG b f
 JT:b < H.n
 Gn:H.g b=cH pg.1
 rf:RD P H f pg.2
noncomputable def dV (P:Nat->Prop) (H:HP) (v:AV) (pg:Int × Di):Prop:=∃a b f,v= .ref a/\KK P H a b f pg
theorem KK.mono (f:ai S H H') (hp:cX S P P' H) {b fa:Nat} {pg:Int × Di} (r:KK P H a b fa pg):KK P' H' a b fa pg:=⟨f.lt r.lt,f.fix r.lt r.at_ rfl,f.lt r.JT,f.fix r.JT r.Gn rfl,r.rf.mono f hp⟩
theorem dV.mono (f:ai S H H') (hp:cX S P P' H) {v:AV} {pg:Int × Di} (r:dV P H v pg):dV P' H' v pg:=r.imp λzz r=>r.imp λzz r=>r.imp λzz r=>⟨r.1,r.2.mono f hp⟩
theorem Bc {n n':Nat} (h:n<=n') {x:Nat}:bf (bf P n) n' x->bf P n x:=λz=>z.elim id λq=>.inr (aaw h q)
theorem EZ (m:aQ G) {b f:Nat} (h:yU Q H (AG b f)):tV (G (k+1)) "Page" [.ref b,.ref f] H Q:=ud m (i:=18) rfl rfl ⟨⟨rfl,rfl⟩,rfl,rfl,rfl⟩ nofun nofun h
theorem BG (r:RD P H a d) (z:P H.n) (h:∀H',ai aJ H H'->H'.n=H.n+1->RD P H' H.n d->Q (.ref H.n) H'):vU (.ref a) H Q:=
 r.at λes e l=>⟨λx hx=>(l.mem hx).elim λzz q=>q.2.1▸rfl,cN λH' f n e'=>h H' f n (.fresh (n▸aaC _) z e' (l.imp λzz zz r=>r.mono f aV) r.nd)⟩
theorem wh (m:aQ G) {b hd ih:Nat} {ab:AV} {x:aW} (rs:RS P H s t tab tr) (sb:JG P H a b hd ab ih x) (hi:qR tab x.d) (hl:x.d.length < 64)
  (h:vV (bf P H.n) Q H (iN x.d x.aR)):G (k+3) "fields_of" [.ref s,.ref a] H Q:=by
 refine m.run 25 rfl rfl rfl (ad sb.at_ (BG (sb.rd.fA (bf P H.n) λzz zz h=>.inl h) (.inr (aaF _)) λH1 f1 n1 r1=>?_))
 refine sd (Z:=bf P H.n) (H1:=H) (g:=H.n) (dP x.d x.aR) (λzz=>And.intro rfl rfl) vh (λkey cur loc' H3 C hk f3 r3 hl l nx=>?_) ax (cur:=x.d) (λzz h=>h) (aaw (abb (aaI hl) 4) (by decide)) f1 r1 (λzz zz=>rfl) (λloc' H3 f3 r3 l=>ak (v:= .ref H.n) (l "found" rfl) (h H3 _ f3 (aaF _) r3)) rfl
 have Fh:=rs.mn f3
 have MR:=sb.mono f3 aV
 refine ak (v:= .ref a) (l "spot" rfl) (ad MR.at_ (MR.ri.isin ?_))
 unfold dP at nx
 cases U4:look key x.aR with
 | none=>
  refine nx _ f3 ?_
  rw [U4]
  cases look key x.d<;>exact r3
 | some va=>
  refine ak (v:= .ref s) (l "shelf" rfl) (Fh.ins.elim λzz es=>ad es.1 (ak (v:= .ref a) (l "spot" rfl) (ad MR.at_ (z7 m Fh MR.rd (hi key hk) λw hw=>rS hw ?_))))
  cases Vu:look key x.d with
  | some vd=>exact nx _ f3 ((Vu)▸r3)
  | none=>
   refine ak (v:= .ref a) (l "spot" rfl) (ad MR.at_ (MR.ri.idx U4 λu ru=>ak (v:= .ref H.n) (l "found" rfl) (r3.set (ru.fA λzz zz h=>.inl h) hl λH4 f4 n4 r4=>nx _ (f3.up f4 (aaF _)) ?_)))
   rw [Vu,U4];exact r4
theorem sk (m:aQ G) (rs:RS P H s t tab tr) (T:Tree tab tr sp) (h:tU (fj (bf P H.n)) Q H aJ (sp.filter (·.pg))):G (k+6) "page_spots" [.ref s] H Q:=by
 refine m.run 26 rfl rfl rfl (zR m rs T λH1 b vs f1 h1 h2 h3 h4=>dB (q:=fj (bf P H.n)) (aH h3) h2 id (λx=>x.pg) (λzz zz zz zz f z=>fj.mono f aV z) h4 (h4.len▸aaI (ii T.len)) (λv x H2 C N rv f y n=>?_) λH2 c JU f2 qA lD e2 l2=>h H2 c JU (f1.tr f2) (aaw f1.le qA) lD e2 (by rw [aby] at l2;exact l2))
 have rv:=fj.mono f aV rv
 refine kE rv λa b hd ab ih q=>?_
 exact q.1▸ad q.2.at_ (Dt (λe=>y e H2 _ .refl (q.1▸rv)) n)
noncomputable def K6 (P:Nat->Prop) (H:HP) (Q:KV) (sp:List aW):Prop:=tU (dV (bf P H.n)) Q H aJ (ar sp)
theorem kI (m:aQ G) (rs:RS P H s t tab tr) (T:Tree tab tr sp) (ok:∀w∈tab,de w.2) (h:K6 P H Q sp):G (k+7) "pages" [.ref s] H Q:=by
 refine m.run 27 rfl rfl rfl (sk m rs T λH1 b vs f1 Ku h2 h3 h4=>cB (q:=dV (bf P H.n)) (aH h3) h2 (λx:aW=>(x.n,iN x.d x.aR)) (λzz zz zz zz f z=>dV.mono f aV z) h4.wm (h4.len▸aaI (ii (aaz (List.length_filter_le ..) T.len))) (λv x H2 C N rv f y=>?_) λH2 c JU f2 qA lD e2 l2=>h H2 c JU (f1.tr f2) (aaw f1.le qA) lD e2 l2)
 have qA:=aaw f1.le f.le
 refine kE (fj.mono f aV rv.1) λa b hd ab ih q=>bj T.ex λzz zz zz z=>?_
 have w:=z.2.2.all x (abk.mp rv.2).1
 have sb:=q.2
 refine q.1▸ad sb.at_ (wh m (rs.mono (f1.tr f) (λzz zz h=>⟨id,.inl h⟩) id id) sb w.2 (show eI x.d from ok _ (bo w.1)).1 λH3 fa f3 A1 r3=>EZ m λH4 f4 n4 e4=>?_)
 have Co:=f3.tr f4
 exact y H4 _ Co (cZ _ b fa ⟨rfl,n4▸aaC _,e4,Co.lt sb.JT,Co.fix sb.JT sb.Gn rfl,(r3.mn f4).fA _ λzz zz=>Bc qA⟩)
end
noncomputable def aM (tab:List (Int × Ob)) (n:Int):Bool:=(ah n tab).isSome
noncomputable def GD:List String:=["Size","Prev","XRefStm"]
noncomputable def Vv (s:String):Bool:=(GD.map AV.str).any (i8 (.str s))
noncomputable def ue (tr:Di):Di:=tr.filter λx=>!Vv x.1
noncomputable def b5 (ks:List AV):List (AV × AV):=cT (ks.map λv=>(v,AV.bool true))
theorem fZ (ks:List AV) (k:AV):b5 (ks++[k])=bS k (.bool true) (b5 ks):=by delta b5 cT;rw [aaL,List.foldl_append];rfl
theorem pF {k v k':AV} {es:List (AV × AV)}:k'∈(bS k v es).map (·.1) ↔ k'=k\/k'∈es.map (·.1):=by
 induction es with
 | nil=>exact aaH
 | cons e r ih=>
  by_cases q:e.1=k
  .rw [show bS k v (e::r)=(k,v)::r from q▸lu,aa4,aaH,aa4,aaH,q];exact ⟨.inr,λh=>h.elim .inl id⟩
  .rw [show bS k v (e::r)=_ from iF q,aa4,aaH,ih,aa4,aaH];exact or_left_comm
theorem zC {k v:AV} {es:List (AV × AV)} (h:(es.map (·.1)).Nodup):((bS k v es).map (·.1)).Nodup:=by
 induction es with
 | nil=>exact abu _ _
 | cons e r ih=>
  by_cases q:e.1=k
  .rw [show bS k v (e::r)=(k,v)::r from q▸lu];exact (show (k::r.map (·.1)).Nodup from q▸h)
  .have h:=aa8.mp h
   rw [show bS k v (e::r)=_ from iF q]
   exact aa8.mpr ⟨λz=>(pF.mp z).elim q h.1,ih h.2⟩
theorem fY {α:Type} {p:List α->Prop} (h0:p []) (h1:∀l a,p l->p (l++[a])) (l:List α):p l:=by
 have:∀l:List α,p l.reverse:=λl=>by
  induction l with
  | nil=>exact h0
  | cons a l ih=>rw [List.reverse_cons];exact h1 _ _ ih
 exact List.reverse_reverse l▸this l.reverse
theorem cu (ks:List AV):∀k,k∈(b5 ks).map (·.1) ↔ k∈ks:=fY (p:=λks=>∀k,k∈(b5 ks).map (·.1) ↔ k∈ks) (λk=>.rfl) (λl a ih k=>by rw [fZ,pF,ih,aa6,aaK];exact or_comm) ks
theorem Bs (ks:List AV):((b5 ks).map (·.1)).Nodup:=fY (p:=λks=>((b5 ks).map (·.1)).Nodup) List.Pairwise.nil (λl a ih=>by rw [fZ];exact zC ih) ks
theorem Bu (ks:List AV):(b5 ks).length<=ks.length:=aaB (as:=b5 ks) (·.1)▸(Bs ks).length_le_of_subset λk hk=>(cu ks k).mp hk
theorem Cu {ks:List AV} (h:ks.Nodup):b5 ks=ks.map λv=>(v,AV.bool true):=lC (es:=[]) (by rw [List.nil_append,aa5];exact (aby ks).symm▸h)
theorem kg {ks:List AV} {k:AV} (h0:kk k≠0) (h:∀x∈ks,kk x=kk k):bB k (b5 ks):=⟨h0,λe he=>h _ ((cu ks e.1).mp (abi he))⟩
theorem BQ {ns:List Int} (h:ns.Nodup):b5 (ns.map pr)=gR ns:=(Cu (h.map _ λzz zz q e=>q (CU e))).trans aa5
theorem lv {β:Type} {ws:List β} {f:β->AV} {n:Nat} (h:∀w,kk (f w)=n) (h0:n≠0):td (ws.map f):=λx hx=>(aaG.mp hx).elim λw q=>q.2▸⟨h w▸h0,λy hy=>(aaG.mp hy).elim λv z=>z.2▸(h v).trans (h w).symm⟩
theorem uO (ks:List AV):dH (ks.map λv=>AV.tup [v,.bool true])=some (ks.map λv=>(v,.bool true)):=by
 induction ks with
 | nil=>rfl
 | cons k r ih=>show Option.map _ (dH _)=_;rw [ih];rfl
section
variable {G:Nat->aj} {H H0 H':HP} {Q:KV} {QS:KS} {k a s t:Nat} {P P' S:Nat->Prop} {loc loc':Loc} {tab:List (Int × Ob)} {tr d:Di} {Γ:aj} {elt:PX} {cs:PC} {tg:Tg}
theorem dr {β:Type} {r:AV->β->Prop} {xs:List AV} {ws:List β} (e:eX (H.g a)=some xs) (la:a < H.n) (f:β->AV) (hr:L2 r xs ws) (hl:xs.length<=lim) (fit:td (ws.map f))
  (step:∀v w H' (C:KV) (N:HP->Prop),r v w->ai aJ H H'->(∀bz,ai aJ H bz->C (.tup [f w,.bool true]) bz)->Gq elt cs tg loc v H' C N)
  (h:∀H' a',ai aJ H H'->H.n<=a'->a' < H'.n->H'.g a'= .dict (b5 (ws.map f))->Q (.ref a') H'):eV elt tg .plain cs loc (D2 (XL.nil Γ) loc' (Ka Γ "dict" Q)) [.ref a] H:=
 dX e la (λw=>.tup [f w,.bool true]) hr hl step λH1 b f1 zz zz e1=>ad (e1.trans (congrArg AO.list (aa5 (f:=f) (g:=λv=>AV.tup [v,.bool true])).symm)) (dF (uO _) ⟨by rw [aa5];exact (aby (ws.map f)).symm▸fit,cN λH2 f2 n2 e2=>h H2 _ (f1.tr f2) f1.le (n2▸aaC _) e2⟩)
theorem jC (m:aQ G) {n:Int} (rs:RS P H s t tab tr) (h:Q (.bool (aM tab n)) H):G (k+1) "is_there" [.ref s,pr n] H Q:=by
 refine rs.ins.elim λr e1=>rs.tb.elim λes e2=>m.run 28 rfl rfl rfl (ad e1.1 (ad e2.1 ⟨fi e2.2,rS (gG (n:=n) e2.2).isSome ?_⟩))
 unfold aM at h
 cases hl:ah n tab with
 | none=>rw [hl] at h;exact h
 | some o=>rw [hl] at h;exact ad e1.1 (rs.entry hl λu zz=>h)
theorem mN (m:aQ G) (rs:RS P H s t tab tr) (hl:tr.length < 64) (h:vV (bf P H.n) Q H (ue tr)):G (k+1) "plain_trailer" [.ref s] H Q:=by
 refine rs.ins.elim λr e1=>e1.2.ex.elim λes l=>m.run 29 rfl rfl rfl (ad e1.1 ?_)
 refine dB (q:=fC (bf P H.n)) (qS l.1 l.2) e1.2.lt id (λx=>!Vv x.1) (λzz zz zz zz f z=>z.mn f) gu (dC▸aaI (gA hl)) (λv x H' C N rv f y n=>?_) λH1 b vs f1 Ku qc e2 l1=>?_
 .obtain rfl:=rv.1
  have q:=e1.2.mn f
  refine Rq (Dt (λe=>?_) n)
  exact ad (f.keep rs.lt e1.1) (q.idx (ch q.nd rv.2) λu ru=>y e _ _ .refl ⟨u,rfl,ru.fA λzz zz h=>.inl h⟩)
 .rw [aby] at l1
  exact iS e2 l1 ((List.filter_sublist.map _).nodup e1.2.nd) (.inr f1.le) λH3 c f3 A1 rd=>h H3 c (f1.tr f3) (aaw f1.le A1) rd
end
structure RX (tab:List (Int × Ob)) (base:List Int) (C:List Int):Prop where
 nd:C.Nodup
 sub:∀n∈C,aM tab n=true
 base:∀n∈base,aM tab n=true->n∈C
 step:∀m∈C,∀o,ah m tab=some o->∀n∈mi o,aM tab n=true->n∈C
theorem eQ {tab:List (Int × Ob)} {C:List Int} (nd:C.Nodup) (h:∀n∈C,aM tab n=true):C.length<=tab.length:=
 aaB (as:=tab) (·.1)▸nd.length_le_of_subset λn hn=>(aa7.mp (h n hn)).elim λo e=>aaG.mpr ⟨_,bo e,rfl⟩
structure L9 where
 P:Nat->Prop
 H:HP
 s:Nat
 t:Nat
 tab:List (Int × Ob)
 tr:Di
 f:Nat
 e:Nat
structure Ki (c:L9):Prop where
 rs:RS c.P c.H c.s c.t c.tab c.tr
 lf:c.H.n<=c.f
 fe:c.f < c.e
structure OD (c:L9) (cs:List Int) (H:HP):Prop where
 aD:ai aJ c.H H
 lt:c.e < H.n
 gf:H.g c.f= .list (cs.map pr)
 ge:H.g c.e= .dict (gR cs)
 nd:cs.Nodup
 sub:∀n∈cs,aM c.tab n=true
noncomputable def He (c:L9):Nat->Prop:=λx=>x=c.f\/x=c.e
section
variable {G:Nat->aj} {H H0 H':HP} {Q:KV} {QS:KS} {k a s t:Nat} {P P' S:Nat->Prop} {loc loc0:Loc} {tab:List (Int × Ob)} {tr d:Di} {c:L9} {cs:List Int}
theorem OD.len (ok:Ki c) (w:OD c cs H):cs.length < 64:=aaz (eQ w.nd w.sub) ok.rs.len
noncomputable def JQ:SL:= .o (.bA (.and (.cmp .cL (.loc "pair") (.loc "seen")) (.call "is_there" (.cons (.loc "shelf") (.o (.loc "pair"))))) (.cons (.b8 (.loc "seen") (.loc "pair") (.bool true)) (.o (.expr (.ay (.loc "found") "append" (.o (.loc "pair")))))) .nil)
theorem yG (m:aQ G) (ok:Ki c) {H1:HP} {src:HP->Prop} (hs:∀H',ai (He c) H1 H'->src H') (l0:loc0 "shelf"= .ref c.s) (l1:loc0 "found"= .ref c.f) (l2:loc0 "seen"= .ref c.e) (refs:List Int):
  ∀{cs:List Int} {loc:Loc} {H':HP},ai (He c) H1 H'->OD c cs H'->qw "pair" loc0 loc->(∀ex loc' bz,OD c (cs++ex) bz->(∀n∈refs,aM c.tab n=true->n∈cs++ex)->qw "pair" loc0 loc'->QS .next loc' bz)->∀{vs:List AV},vs=refs.map pr->k9 (JQ (G (k+1))) (.nm "pair") src vs loc H' QS:=by
 induction refs with
 | nil=>exact λzz w l hQ vs e=>e▸hQ [] _ _ ((aaY _).symm▸w) fm l
 | cons n refs ih=>
  intro cs loc H' f w l hQ vs e
  rw [e]
  have next:(n∈cs\/aM c.tab n=false)->Ta src (k9 (JQ (G (k+1))) (.nm "pair") src (refs.map pr)) QS .next (loc.upd "pair" (pr n)) H':=λh=>⟨hs _ f,ih f w l.upd (λex loc' bz w' g l'=>hQ ex loc' bz w' (λx hx ht=>(aaH.mp hx).elim (λz=>h.elim (λq=>aa3 _ (z▸q)) λq=>nomatch (z▸ht).symm.trans q) λz=>g x z ht) l') rfl⟩
  refine ak (v:= .ref c.e) ((l _ rfl).trans l2) (ad w.ge ⟨bQ,Dt (λe=>next (.inl (gp.mp (getD_some.mp e)))) λe=>?_⟩)
  have hn:n ∉ cs:=λq=>(Bool.eq_false_iff.mp e) (getD_some.mpr (gp.mpr q))
  refine ak (v:= .ref c.s) ((l _ rfl).trans l0) (jC m (ok.rs.mn w.aD) (Dt (λht=>?_) λht=>next (.inr ht)))
  have ll:=gA (w.len ok)
  refine ak (v:= .ref c.e) ((l _ rfl).trans l2) (ad w.ge ⟨bQ,by rw [gR,aaB];exact ll,ng w.ge λH2 f2 n2 e2=>?_⟩)
  have VL:=f2.ne (aaA ok.fe w.lt) w.gf (aaJ ok.fe)
  refine ak (v:= .ref c.f) ((l _ rfl).trans l1) (ad VL (BF VL (by rw [aaB];exact ll) λH3 f3 n3 e3=>?_))
  have mK:ai (He c) H1 H3:=(f.trans f2 λzz zz q=>.inr q).trans f3 λzz zz q=>.inl q
  refine ⟨hs _ mK,ih mK (cs:=cs++[n]) ⟨(w.aD.up f2 (aaw ok.lf (aaI ok.fe))).up f3 ok.lf,by rw [n3,n2];exact w.lt,e3.trans (by rw [aaL];rfl),f3.ne (n2▸w.lt) (e2.trans (congrArg AO.dict (rL hn))) (aaN ok.fe),abw.mpr ⟨w.nd,abu _ _,λx hx y hy e=>hn (aaK.mp hy▸e▸hx)⟩,λx hx=>(aa6.mp hx).elim (w.sub x) λq=>aaK.mp q▸ht⟩ l.upd (λex loc' bz w' g l'=>?_) rfl⟩
  rw [aaW] at w' g
  exact hQ _ loc' bz w' (λx hx ht=>(aaH.mp hx).elim (λz=>aaT _ (aa3 _ (aaK.mpr z))) λz=>g x z ht) l'
noncomputable def Ju (tab:List (Int × Ob)) (base:List Int) (H:HP) (Q:KV):Prop:=∀(H':HP) (a:Nat) (ns:List Int),ai aJ H H'->H.n<=a->a < H'.n->H'.g a= .list (ns.map pr)->RX tab base ns->Q (.ref a) H'
structure XW (c:L9) (base cs:List Int) (i j:Nat) (loc:Loc) (H:HP):Prop where
 w:OD c cs H
 l0:loc "shelf"= .ref c.s
 l1:loc "found"= .ref c.f
 l2:loc "seen"= .ref c.e
 l3:loc "at"= .int i
 le:i<=cs.length
 eq:i+j=c.tab.length
 base:∀n∈base,aM c.tab n=true->n∈cs
 step:∀q x,q < i->cs[q]? =some x->∀o,ah x c.tab=some o->∀n∈mi o,aM c.tab n=true->n∈cs
noncomputable def XE (c:L9) (base:List Int) (j:Nat) (loc:Loc) (H:HP):Prop:=∃cs i,XW c base cs i j loc H
theorem CN {ns:List Int}:L2 (λv n=>v=pr n) (ns.map pr) ns:=L2.mJ (r:=λv n=>v=pr n) (L2.diag λzz zz=>rfl)
theorem Lv (m:aQ G) (rs:RS P H s t tab tr) (ok:∀w∈tab,de w.2) (rd:RD P H a d) (Pv:eI d) (h:Ju tab (cK d) H Q):G (k+5) "walk" [.ref s,.ref a] H Q:=by
 refine m.run 30 rfl rfl rfl (iR m (it:= .ob (.dict d)) ⟨a,rfl,rd⟩ Pv λH1 ra refs f1 h1 h2 h3 AM hlen B7=>?_)
 have rl:(refs.map pr).length<=lim:=by rw [aaB];exact aaI (aaA hlen (by decide))
 refine eJ (aH h3) h2 pr (λn=>aM tab n) CN rl (λv n H' C N rv f y no=>?_) λH2 fa f2 qA lD e2=>?_
 .subst rv
  refine jC m (rs.mn (f1.tr f)) (Dt (λe=>y e H' f) λe=>no e H' f)
 have fL:=f1.tr f2
 have Eb:∀n∈refs.filter λn=>aM tab n,aM tab n=true:=λn hn=>(abk.mp hn).2
 have M2:=AM.filter λn=>aM tab n
 have Ak:∀n∈cK d,aM tab n=true->n∈refs.filter λn=>aM tab n:=λn hn ht=>abk.mpr ⟨(B7 n).mpr hn,ht⟩
 revert e2 Eb M2 Ak
 generalize refs.filter (λn=>aM tab n)=ns
 intro e2 Eb M2 Ak
 refine dr (aH e2) lD pr CN (by rw [aaB];exact aaI (gA (aaz (eQ M2 Eb) rs.len))) (lv (λzz=>rfl) (by decide:(3:Nat)≠0)) (λv n H' C N rv f y=>by subst rv;exact y H' f) λH3 ea f3 A1 B9 e3=>?_
 rw [BQ M2] at e3
 refine (λ(c:L9) (e:c=⟨P,H,s,t,tab,tr,fa,ea⟩)=>?_) _ rfl
 have Ln:Ki c:=e▸⟨rs,aaw f1.le qA,aax lD A1⟩
 have h:Ju c.tab (cK d) c.H Q:=e▸h
 have ok:∀w∈c.tab,de w.2:=e▸ok
 refine Rz (XE c (cK d)) tab.length (e▸(bH ns 0 ⟨⟨fL.tr f3,B9,f3.keep lD e2,e3,M2,Eb⟩,rfl,rfl,rfl,rfl,abp _,abE _,Ak,λq x hq=>absurd hq (Nat.not_lt_zero _)⟩)) ?_
 clear e rs rl hlen B7 AM h3 fL Ak M2 e2 e3 Eb
 refine λj loc H' C I hN=>aq I λcs i I=>?_
 have w:=I.w
 refine ak I.l3 (ak I.l1 (ad w.gf ?_))
 have cl:(cs.map pr).length=cs.length:=aaB _
 have bi:∀n:Nat,((i:Int) < (n:Int)) ↔ i < n:=λn=>abA
 refine yO (λtx=>?_) λjR=>?_
 .rw [cl,bi] at tx
  obtain ⟨x,hx⟩:∃x,cs[i]? =some x:=⟨cs[i],aaR tx⟩
  obtain ⟨o,ho⟩:=aa7.mp (w.sub x (aaO hx))
  have rs:=Ln.rs.mn w.aD
  refine ak I.l0 (rs.ins.elim λzz e1=>ad e1.1 (ak I.l1 (ak I.l3 (ad w.gf ?_))))
  refine dF (v:=pr x) (by rw [Int.toNat_natCast,abc,hx];rfl) (rs.entry ho λu ru=>iR m (it:= .ob o) ru (ok _ (bo ho)) λH2 ra rf f2 g1 g2 g3 zz zz gm=>dF (aH g3) ?_)
  refine yG m Ln (loc0:=loc) (λbz f=>bC f g2 (λq=>(show ∀y,He c y->y≠ra from λy hy e=>hy.elim (λq=>aaJ (aax (aaA Ln.fe w.lt) g1) (q▸e)) λq=>aaJ (aax w.lt g1) (q▸e)) ra q rfl) ⟨aH g3,rfl⟩) I.l0 I.l1 I.l2 rf .refl ⟨w.aD.tr f2,f2.lt w.lt,f2.keep (aaA Ln.fe w.lt) w.gf,f2.keep w.lt w.ge,w.nd,w.sub⟩ (λzz zz=>rfl) (λex loc' H3 w3 hc l=>?_) rfl
  have yR:=w3.len Ln
  refine ak ((l _ rfl).trans I.l3) (hN (j - 1) _ _ ?_ (bH (cs++ex) (i+1) ⟨w3,(l _ rfl).trans I.l0,(l _ rfl).trans I.l1,(l _ rfl).trans I.l2,rfl,?_,?_,λn hn ht=>aa3 _ (I.base n hn ht),λq y hq hy o' Pu n hn ht=>?_⟩))
  .have:=I.eq;have:=eQ w.nd w.sub;exact (zq (aax tx this) (by assumption)).1
  .rw [aaD];exact aaw tx (aaM _ _)
  .have:=I.eq;have:=eQ w.nd w.sub;exact (zq (aax tx this) (by assumption)).2
  .by_cases z:q < i
   .rw [abz (aaA z tx)] at hy
    exact aa3 _ (I.step q y z hy o' Pu n hn ht)
   .have z:q=i:=Nat.le_antisymm (Nat.le_of_lt_succ hq) (aaP.mp z)
    rw [z,abz tx,hx] at hy
    rw [<-aay hy,ho] at Pu
    exact hc n ((gm n).mpr (aay Pu▸hn)) ht
 .rw [cl,bi] at jR
  refine ak I.l1 (h H' _ cs w.aD Ln.lf (aaA Ln.fe w.lt) w.gf ⟨w.nd,w.sub,I.base,λx hx o ho n hn ht=>(abo hx).elim λq hq=>?_⟩)
  exact I.step q x (aax ((aaZ.mp hq).1) (aaP.mp jR)) hq o ho n hn ht
end
section
variable {G:Nat->aj} {H H0 H':HP} {Q:KV} {QS:KS} {k a s t:Nat} {P P' S:Nat->Prop} {tab:List (Int × Ob)} {tr d:Di}
theorem yQ {xs:List AV} (e:H.g a= .list xs) (hs:xs.all AV.qd=true\/xs.all AV.oP=true) (hl:xs.length < 64) (h:pK Q H aJ (bt xs)):jQ (.ref a) H Q:=ad e ⟨hs,hl,IG h .refl⟩
theorem B6 (m:aQ G) (rs:RS P H s t tab tr) (ok:∀w∈tab,de w.2) (rd:RD P H a d) (Pv:eI d)
  (h:∀ns:List Int,RX tab (cK d) ns->pK Q H aJ (bt (ns.map AV.int))):G (k+6) "reached" [.ref s,.ref a] H Q:=by
 refine m.run 31 rfl rfl rfl (Lv m rs ok rd Pv λH1 ra ns f1 Ku qc e1 ui=>?_)
 have hl:=aaz (eQ ui.nd ui.sub) rs.len
 refine dX (aH e1) qc AV.int CN (by rw [aaB];exact aaI (gA hl)) (λv n H' C N rv f y=>by subst rv;exact y H' f) λH2 b f2 qA lD e2=>?_
 exact yQ e2 (.inl (aaX.mpr λx hx=>(aaG.mp hx).elim λzz q=>q.2▸rfl)) (by rw [aaB];exact hl) λH3 c f3 A1 B9 e3=>h ns ui H3 c ((f1.tr f2).tr f3) (aaw (f1.tr f2).le A1) B9 e3
theorem u6 (m:aQ G) (rs:RS P H s t tab tr) (ok:∀w∈tab,de w.2) (Kw:eI tr) (Vg:∀C,RX tab (cK (ue tr)) C->∀n,aM tab n=true->n∈C) (h:pK Q H aJ []):G (k+7) "unreached" [.ref s] H Q:=by
 refine m.run 32 rfl rfl rfl (mN m rs Kw.1 λH1 ta f1 zz ZT=>?_)
 refine B6 m (rs.mono f1 (λzz zz h=>⟨id,.inl h⟩) id id) ok ZT ⟨aaz (List.length_filter_le ..) Kw.1,λx hx=>Kw.2 x (abk.mp hx).1⟩ λns ui H2 ra f2 qA lD e2=>?_
 have PG:∀x∈bt (ns.map AV.int),∃n,x= .int n:=λx hx=>(aaG.mp (bP.mp hx)).elim λn q=>⟨n,q.2.symm⟩
 have k2:∀x∈bt (ns.map AV.int),kk x=2:=λx hx=>(PG x hx).elim λzz e=>e▸rfl
 refine dr (ws:=bt (ns.map AV.int)) (aH e2) lD id (L2.diag (r:=λx y=>x=y) λzz zz=>rfl).wm (by rw [dw,aaB];exact aaI (gA (aaz (eQ ui.nd ui.sub) rs.len))) (by rw [aby];exact λx hx=>⟨(k2 x hx).symm▸(by decide:(2:Nat)≠0),λy hy=>(k2 y hy).trans (k2 x hx).symm⟩) (λv n H' C N rv f y=>by obtain rfl:=rv.1;exact mG (v:=v) ((PG v rv.2).elim λzz e=>e▸nofun) (y H' f)) λH3 ea f3 A1 B9 e3=>?_
 rw [aby] at e3
 have JM:=(f1.tr f2).tr f3
 have Fh:=rs.mn JM
 refine Fh.ins.elim λzz es=>ad es.1 (rX m Fh λH4 b f4 R9 nz e4=>?_)
 refine eJ (aH e4) nz (λw:Int × Ob=>AV.int w.1) (λzz=>false) (An rs.num).wm (by rw [pj];exact aaI (gA rs.len)) (λv w H' C N rv f zz no=>?_) λH5 c f5 K4 Tv e5=>?_
 .obtain rfl:=rv.1
  have Vm:=Vg ns ui w.1 (by unfold aM;rw [lR rs.nd rv.2];rfl)
  exact ad ((f4.tr f).keep B9 e3) ⟨kg (abC 1) k2,rS (getD_some.mpr ((cu _ _).mpr (bP.mpr (abi Vm)))) (no rfl H' f)⟩
 .exact h H5 c ((JM.tr f4).tr f5) (aaw (JM.tr f4).le K4) Tv (e5.trans ((List.filter_eq_nil_iff.mpr λzz zz=>aaE).symm▸rfl))
end
noncomputable def bM (q:Int) (o:Ob):List (Int × Ob)->List (Int × Ob)
 | []=>[(q,o)]
 | e::r=>bif decide (e.1=q) then (e.1,o)::r else e::bM q o r
section
variable {q n:Int} {o w:Ob} {tab b:List (Int × Ob)}
theorem eW:ah n ((n,o)::tab)=some o:=by show (bif _ then _ else _)=_;rw [decide_eq_true rfl];rfl
theorem dW (h:q≠n):ah n ((q,o)::tab)=ah n tab:=by show (bif _ then _ else _)=_;rw [decide_eq_false h];rfl
theorem sT:bM q o ((q,w)::tab)=(q,o)::tab:=by show (bif _ then _ else _)=_;rw [decide_eq_true rfl];rfl
theorem ti (h:n≠q):bM q o ((n,w)::tab)=(n,w)::bM q o tab:=by show (bif _ then _ else _)=_;rw [decide_eq_false h];rfl
theorem cG:ah n (bM q o tab)=if q=n then some o else ah n tab:=by
 induction tab with
 | nil=>
  by_cases h:q=n
  .rw [h,if_pos rfl];exact eW
  .rw [if_neg h];exact dW h
 | cons e r ih=>
  obtain ⟨j,w⟩:=e
  by_cases h:j=q
  .rw [h,sT]
   by_cases h2:q=n
   .rw [h2,if_pos rfl,eW]
   .rw [if_neg h2,dW h2,dW h2]
  .rw [ti h]
   by_cases h2:j=n
   .rw [h2,eW,if_neg λz=>h (h2.trans z.symm),eW]
   .rw [dW h2,ih,dW h2]
theorem eT (h:q∈tab.map (·.1)):(bM q o tab).map (·.1)=tab.map (·.1):=by
 induction tab with
 | nil=>cases h
 | cons e r ih=>
  obtain ⟨j,w⟩:=e
  by_cases z:j=q
  .rw [z,sT];rfl
  .rw [ti z,aa4,ih ((aaH.mp h).resolve_left λx=>z x.symm)];rfl
theorem oj (h:n ∉ tab.map (·.1)):ah n tab= .none:=match e:ah n tab with
 | .none=>rfl
 | some _=>absurd (aaG.mpr ⟨_,bo e,rfl⟩) h
theorem kK:ah n (tab++b)=(ah n tab).orElse λzz=>ah n b:=by
 induction tab with
 | nil=>rfl
 | cons e r ih=>
  obtain ⟨j,w⟩:=e
  by_cases z:j=n
  .rw [z,List.cons_append,eW,eW];rfl
  .rw [List.cons_append,dW z,dW z,ih]
theorem bD (h:tab.map (·.1)=(List.range tab.length).map λ(i:Nat)=>(i:Int)+1):q∈tab.map (·.1) ↔ 1<=q/\q<=tab.length:=by
 rw [h,aaG]
 refine ⟨λh=>h.elim λi h=>?_,λh=>⟨(q - 1).toNat,List.mem_range.mpr ?_,?_⟩⟩
 .have:=List.mem_range.mp h.1;exact zw h.2 this
 .exact zt h.1 (zr h.2)
 .exact zv h.1
end
structure MS (Z:Nat->Prop) (H:HP) (ms mt:Nat) (aa:List (Int × Ob)):Prop where
 lt:ms < H.n
 lX:mt < H.n
 ins:∃r,H.g ms=iy mt r
 tb:∃es,H.g mt= .dict es/\L2 (RT Z H) es aa
 num:aa.map (·.1)=(List.range aa.length).map λ(i:Nat)=>(i:Int)+1
 len:aa.length < 64
section
variable {P P' S:Nat->Prop} {H H':HP}
theorem MS.mono (f:ai S H H') (hp:cX S P P' H) {a t:Nat} {tab:List (Int × Ob)} (ha:¬S a) (ht:¬S t) (r:MS P H a t tab):MS P' H' a t tab:=
 ⟨f.lt r.lt,f.lt r.lX,r.ins.imp λzz e=>f.at r.lt ha e,r.tb.imp λzz e=>⟨f.at r.lX ht e.1,e.2.imp λzz zz q=>q.mono f hp⟩,r.num,r.len⟩
theorem zT {es:List (AV × AV)} {tab:List (Int × Ob)} (l:L2 (RT P H) es tab) (num:tab.map (·.1)=(List.range tab.length).map λ(i:Nat)=>(i:Int)+1):es.map (·.1)=dY es.length:=by
 rw [l.map_eq (g:=λw=>AV.int w.1) λzz zz r=>r.1,show (tab.map λx=>AV.int x.1)=(tab.map (·.1)).map AV.int from aa5.symm,num,aa5,l.len];rfl
theorem IV {q:Int} {v:AV} {o:Ob} (hv:RO P H v o) {es:List (AV × AV)} {tab:List (Int × Ob)} (l:L2 (RT P H) es tab):L2 (RT P H) (bS (.int q) (.tup [.int 0,v]) es) (bM q o tab):=l.rec (.cons ⟨rfl,v,rfl,hv⟩ .nil) λ{e x zz zz} r l ih=>by
 show L2 _ (bif i8 e.1 _ then _ else _) (bif _ then _ else _)
 rw [r.1]
 show L2 _ (bif decide (x.1=q) then (AV.int x.1,_)::_ else _) (bif decide (x.1=q) then _ else _)
 exact match decide (x.1=q) with
  | true=>.cons ⟨rfl,v,rfl,hv⟩ l
  | false=>.cons r ih
end
noncomputable def nK (H:HP) (b:Nat) (bs:Int->Bool):Prop:=b < H.n/\∃es,H.g b= .dict es/\∀n,bB (.int n) es/\(getD (.int n) es).isSome=bs n
theorem nK.mono {S:Nat->Prop} {H H':HP} (f:ai S H H') {b:Nat} {bs:Int->Bool} (hb:¬S b) (r:nK H b bs):nK H' b bs:=⟨f.lt r.1,r.2.imp λzz q=>⟨f.at r.1 hb q.1,q.2⟩⟩
noncomputable def Er (sp:List aW) (c:Int) (n:Int):Bool:=decide (n∈sp.map (·.n)\/n=c)
noncomputable def vc (s ms ct b:Nat):AO:= .inst "Collector" [("shelf",.ref s),("made",.ref ms),("table",.ref ct),("barred",.ref b)]
noncomputable def ie (n q:Int) (tbl:List (Int × Int)):List (Int × Int):=bif (ae n tbl).isSome then tbl else tbl++[(n,q)]
section
variable {G:Nat->aj} {H H0 H':HP} {Q:KV} {k s t ms mt:Nat} {P S Z:Nat->Prop} {tab aa:List (Int × Ob)} {tr:Di} {sp:List aW}
theorem rC {a:Nat} (h:∀x,Z x->x≠a):cX (atS a) Z Z H:=λx zz z=>⟨h x z,z⟩
theorem sI (m:aQ G) (hZ:∀x,Z x->x≠mt) (xj:ms≠mt) (r:MS Z H ms mt aa) (hl:aa.length+1 < 64)
  (h:∀H' rr,ai (atS mt) H H'->H.n<=rr->rr < H'.n->H'.g rr=cH ((aa.length:Int)+1)->MS Z H' ms mt (aa++[((aa.length:Int)+1,.null)])->Q (.ref rr) H'):G (k+2) "Shelf.add" [.ref ms,.none] H Q:=by
 refine r.ins.elim λq e=>r.tb.elim λes e2=>CR m nofun e e2.1 (zT e2.2 r.num) (e2.2.len▸r.len) (λH' f n et er=>?_) r.lX
 rw [e2.2.len] at et er
 refine h H' _ f (aaF _) (n▸aaC _) er ⟨f.lt r.lt,f.lt r.lX,⟨q,f.ne r.lt e xj⟩,⟨_,et,(e2.2.imp λzz zz r=>RT.mono f (rC hZ) r).snoc ⟨rfl,.none,rfl,rfl⟩⟩,?_,by rwa [aaD]⟩
 rw [aaL,r.num,aaD,abe,List.range_succ,aaL];rfl
theorem se (m:aQ G) {q:Int} {v:AV} {o:Ob} (hZ:∀x,Z x->x≠mt) (xj:ms≠mt) (r:MS Z H ms mt aa) (hq:1<=q/\q<=aa.length) (rv:RO Z H v o)
  (h:∀H',ai (atS mt) H H'->H'.n=H.n->MS Z H' ms mt (bM q o aa)->Q .none H'):G (k+1) "Shelf.put" [.ref ms,.int q,.int 0,v] H Q:=by
 refine r.ins.elim λtr e=>r.tb.elim λes e2=>Ph m rv.noRef.set e e2.1 (fi e2.2) (gA (e2.2.len▸r.len)) λH' f n e'=>?_
 have hk:(bM q o aa).map (·.1)=aa.map (·.1):=eT ((bD r.num).mpr hq)
 have hl:(bM q o aa).length=aa.length:=aaB (as:=aa) (·.1)▸hk▸(aaB _).symm
 exact h H' f n ⟨f.lt r.lt,f.lt r.lX,⟨tr,f.ne r.lt e xj⟩,⟨_,e',(IV rv e2.2).imp λzz zz r=>RT.mono f (rC hZ) r⟩,hk.trans (hl▸r.num),hl▸r.len⟩
theorem FP (m:aQ G) {c:Int} (rs:RS P H s t tab tr) (T:Tree tab tr sp) (DV:look "Root" tr=some (.at (.ref c))) (h:∀H' b,ai aJ H H'->H.n<=b->nK H' b (Er sp c)->Q (.ref b) H'):G (k+6) "barred_numbers" [.ref s] H Q:=by
 refine m.run 33 rfl rfl rfl (zR m rs T λH1 a vs f1 h1 h2 h3 h4=>?_)
 refine dr (aH h3) h2 (λx:aW=>.int x.n) h4 (h4.len▸aaI (ii T.len)) (lv (λzz=>rfl) (by decide:(2:Nat)≠0)) (λv x H' C N rv f y=>?_) λH2 b f2 qA lD e2=>?_
 .exact kE (fj.mono f aV rv) λa b hd ab ih q=>q.1▸ad q.2.at_ (ad q.2.Gn (y H' f))
 have fL:=f1.tr f2
 have ki:∀ks:List Int,∀n,bB (.int n) (b5 (ks.map AV.int)):=λks n=>kg (abC 1) λx hx=>(aaG.mp hx).elim λzz q=>q.2▸rfl
 have hm:(sp.map λx=>AV.int x.n)=(sp.map (·.n)).map AV.int:=aa5.symm
 rw [hm] at e2
 refine (rs.mn fL).ins.elim λr' e1=>ad e1.1 (e1.2.at λzz zz zz=>e1.2.Hx DV λu ru=>ru.elim λrb w=>?_)
 refine w.1▸ad w.2.2 (ad w.2.2 (ad e2 ⟨ki _ _,aaz (Bu _) (by rw [aaB,aaB];exact ii T.len),ng e2 λH3 f3 n3 e3=>?_⟩))
 rw [<-fZ,show (sp.map (·.n)).map AV.int++[AV.int c]=(sp.map (·.n)++[c]).map AV.int from by rw [aaL];rfl] at e3
 refine h H3 b (fL.up f3 (aaw f1.le qA)) (aaw f1.le qA) ⟨n3▸lD,_,e3,λn=>⟨ki _ n,Bool.eq_iff_iff.mpr (getD_some.trans ((cu _ _).trans ?_))⟩⟩
 rw [aaG]
 exact ⟨λz=>z.elim λx z=>decide_eq_true (AV.int.inj z.2▸(aa6.mp z.1).imp id aaK.mp),λz=>⟨n,aa6.mpr ((of_decide_eq_true z).imp id aaK.mpr),rfl⟩⟩
end
noncomputable def gc:List Int->Int->List (Int × Int)
 | [],_=>[]
 | n::r,q=>(n,q)::gc r (q+1)
theorem BA {fr:List Int} {n:Int}:∀{q:Int},gc (fr++[n]) q=gc fr q++[(n,q+fr.length)]:=by
 induction fr with
 | nil=>exact λ{q}=>(by rw [List.length_nil,Int.natCast_zero,Int.add_zero];rfl)
 | cons x r ih=>exact λ{q}=>(by show (x,q)::gc (r++[n]) (q+1)=_;rw [ih,aa2,Int.natCast_add,Int.add_assoc,Int.add_comm 1];rfl)
noncomputable def cr (L m:Nat):List (Int × Ob):=(List.range m).map λ(i:Nat)=>((L:Int)+1+i,.null)
theorem nV {L m:Nat}:cr L (m+1)=cr L m++[((L:Int)+1+m,.null)]:=by unfold cr;rw [List.range_succ,aaL];rfl
theorem eO {L m:Nat}:(cr L m).length=m:=by rw [cr,aaB,List.length_range]
theorem DA {a b:List (Int × Int)}:dt (a++b)=dt a++dt b:=aaL ..
theorem vk {a:List (Int × Int)}:(dt a).length=a.length:=aaB _
theorem jT {n:Int} {tbl:List (Int × Int)}:(getD (pr n) (dt tbl)).isSome=(ae n tbl).isSome:=by rw [pJ];exact Option.isSome_map
theorem uk {n q:Int} {tbl:List (Int × Int)} (h:ae n tbl= .none):bS (pr n) (pr q) (dt tbl)=dt (tbl++[(n,q)]):=(dL λhm=>by
 have:=getD_some.mpr hm
 rw [jT,h] at this;exact absurd this aaE).trans (by rw [DA];rfl)
theorem dZ {n q:Int} {r:List (Int × Int)}:ae n ((n,q)::r)=some q:=by show (bif _ then _ else _)=_;rw [decide_eq_true rfl];rfl
theorem dR {n j q:Int} {r:List (Int × Int)} (h:j≠n):ae n ((j,q)::r)=ae n r:=by show (bif _ then _ else _)=_;rw [decide_eq_false h];rfl
theorem cc {n:Int} {a b:List (Int × Int)}:ae n (a++b)=(ae n a).orElse λzz=>ae n b:=by
 induction a with
 | nil=>rfl
 | cons e r ih=>
  obtain ⟨j,w⟩:=e
  by_cases z:j=n
  .rw [z,List.cons_append,dZ,dZ];rfl
  .rw [List.cons_append,dR z,dR z,ih]
theorem jl {n:Int} {fr:List Int}:∀{q:Int},(ae n (gc fr q)).isSome=decide (n∈fr):=by
 induction fr with
 | nil=>exact (decide_eq_false aaU).symm
 | cons x r ih=>
  intro q
  show (ae n ((x,q)::_)).isSome=_
  by_cases e:x=n
  .rw [e,dZ];exact (decide_eq_true (.head _)).symm
  .rw [dR e,ih]
   exact decide_eq_decide.mpr ⟨.tail _,λh=>(aaH.mp h).resolve_left (abm e)⟩
section
variable {G:Nat->aj} {H H0 H':HP} {Q:KV} {k s t ms mt ct:Nat} {P S Z:Nat->Prop} {tab aa:List (Int × Ob)} {tr:Di} {sp:List aW}
theorem DE (m:aQ G) {c:Int} (rs:RS P H s t tab tr) (T:Tree tab tr sp) (DV:look "Root" tr=some (.at (.ref c)))
  (h:∀H' ct b,ai aJ H H'->H.n < ct/\ct < b->H'.g H.n=vc s ms ct b->H'.g ct= .dict []->nK H' b (Er sp c)->Q (.ref H.n) H'):tV (G (k+7)) "Collector" [.ref s,.ref ms] H Q:=by
 refine m.run 34 rfl rfl rfl (ad dq (upd.mk (ad bp (upd.mk (cN λH1 f1 n1 e1=>?_)))))
 have n0:H.n < H1.n:=n1▸aax (aaC _) (aba _)
 refine ad (f1.at (aaC H.n) id (bp (H:=(H.push _).set H.n _) (a:=H.n))) ⟨?_⟩
 have f2:=(((ai.push.re (aaF _)).re (aaF _)).tr (f1.weak λzz zz q=>q)).re (o:= .inst "Collector" [("shelf",.ref s),("made",.ref ms),("table",.ref (H.n+1))]) (aaF _)
 refine FP m (rs.mn f2) T DV λH3 b f3 hb rb=>?_
 have nc:H.n+1 < H1.n:=n1▸aaC _
 refine ad (f3.keep (a:=H.n) n0 bp) ⟨⟨rfl,h _ (H.n+1) b ((f2.tr f3).re (aaF _)) ⟨aaC _,aax nc hb⟩ bp ((ey (aaN (aaC _))).trans (f3.keep nc ((ey (aaN (aaC _))).trans e1))) ⟨rb.1,rb.2.imp λzz q=>⟨(ey (aaN (aax n0 hb))).trans q.1,q.2⟩⟩⟩⟩
noncomputable def mM (mt ct:Nat):Nat->Prop:=λx=>x=mt\/x=ct
structure oL where
 c:Nat
 s:Nat
 ms:Nat
 ct:Nat
 b:Nat
 mt:Nat
 Z:Nat->Prop
structure Lh (C:oL) (H:HP) (aa:List (Int × Ob)) (tbl:List (Int × Int)):Prop where
 lt:C.c < H.n
 at_:H.g C.c=vc C.s C.ms C.ct C.b
 Gk:C.ct < H.n
 tb:H.g C.ct= .dict (dt tbl)
 tl:tbl.length < 1000
 ms:MS C.Z H C.ms C.mt aa
 ml:aa.length+1 < 64
structure uf (C:oL):Prop where
 zm:∀x,C.Z x->x≠C.mt
 zc:∀x,C.Z x->x≠C.ct
 d1:C.ms≠C.mt
 d2:C.ms≠C.ct
 d3:C.mt≠C.ct
theorem Bh (m:aQ G) {C:oL} (ok:uf C) {p pb f:Nat} {n:Int} {tbl:List (Int × Int)} (A:Lh C H aa tbl) (hp:p < H.n) (ep:H.g p=AG pb f) (YF:pb < H.n) (Zz:H.g pb=cH n)
  (h:∀H' rr,ai (mM C.mt C.ct) H H'->H.n<=rr->rr < H'.n->H'.g rr=cH ((aa.length:Int)+1)->MS C.Z H' C.ms C.mt (aa++[((aa.length:Int)+1,.null)])->H'.g C.ct= .dict (dt (ie n ((aa.length:Int)+1) tbl))->Q (.ref rr) H'):G (k+3) "Collector.reserve" [.ref C.c,.ref p] H Q:=by
 refine A.ms.ins.elim λtr e1=>m.run 35 rfl rfl rfl (ad A.at_ (ad e1 (sI m ok.zm ok.d1 A.ms A.ml λH1 rr f1 h1 h2 h3 h4=>?_)))
 have Qu:=f1.fix hp ep rfl
 have HK:=f1.fix YF Zz rfl
 have ea:=f1.fix A.lt A.at_ rfl
 have et:=f1.ne A.Gk A.tb (abm ok.d3)
 refine ad Qu (ad HK (cQ m HK (ad ea (ad et ⟨bQ,rS jT ?_⟩))))
 unfold ie at h
 cases hl:ae n tbl with
 | some q=>
  rw [hl] at h
  exact h H1 rr (f1.weak λzz zz h=>.inl h) h1 h2 h3 h4 et
 | none=>
  replace h:=(hl)▸h
  refine ad h3 (cQ m h3 (ad ea (ad Qu (ad HK (cQ m HK (ad et ⟨bQ,by rw [vk];exact ii A.tl,ng et λH2 f2 n2 e2=>?_⟩))))))
  exact h H2 rr ((f1.weak λzz zz h=>.inl h).trans f2 λzz zz h=>.inr h) h1 (f2.lt h2) (f2.fix h2 h3 rfl) (h4.mono f2 (rC ok.zc) ok.d2 ok.d3) (e2.trans (congrArg AO.dict (uk hl)))
end
theorem nX {α:Type} {l:List α} (h:l.Nodup) {i:Nat} {x:α} (e:l[i]? =some x):x ∉ l.take i:=λhx=>by
 have:=List.take_append_drop i l▸h
 have e2:x∈l.drop i:=aaO (i:=0) (by rw [List.getElem?_drop];exact e)
 exact (abw.mp this).2.2 x hx x e2 rfl
theorem jp {α:Type} {l:List α} {i:Nat} {x:α} (e:l[i]? =some x):l.take (i+1)=l.take i++[x]:=by rw [List.take_add_one,e];rfl
theorem E8 {l:List Int}:∀{q:Int},(gc l q).length=l.length:=by
 induction l with
 | nil=>exact rfl
 | cons a l ih=>exact congrArg (· +1) ih
theorem ai.Jg {S:Nat->Prop} {H0 H H':HP} {a:Nat} (x:ai S H0 H) (f:ai (atS a) H H') (h:H0.n<=a):ai S H0 H':=x.trans f λb hb e=>(aaP.mpr h ((show b=a from e)▸hb)).elim
structure w7 where
 C:oL
 P:Nat->Prop
 H:HP
 t:Nat
 tab:List (Int × Ob)
 tr:Di
 la:Nat
 fa:Nat
 ns:List Int
 aa:List (Int × Ob)
 tbl:List (Int × Int)
 bs:Int->Bool
noncomputable def w7.good (T:w7) (n:Int):Prop:=ae n T.tbl= .none/\aM T.tab n=true/\T.bs n=false
noncomputable def w7.mu (T:w7):Nat->Prop:=mM T.C.mt T.C.ct
noncomputable def w7.vi (T:w7) (fr:List Int):List (Int × Int):=T.tbl++gc fr ((T.aa.length:Int)+1)
structure WE (C:oL) (P:Nat->Prop) (H:HP) (t:Nat) (tab:List (Int × Ob)) (tr:Di) (aa:List (Int × Ob)) (tbl:List (Int × Int)) (bs:Int->Bool):Prop where
 ok:uf C
 rs:RS P H C.s t tab tr
 rb:nK H C.b bs
 zP:∀x,P x->¬mM C.mt C.ct x
 zs:¬mM C.mt C.ct C.s
 zt:¬mM C.mt C.ct t
 zb:¬mM C.mt C.ct C.b
 lt:C.c < H.n
 at_:H.g C.c=vc C.s C.ms C.ct C.b
 Gk:C.ct < H.n
 tb:H.g C.ct= .dict (dt tbl)
 tl:tbl.length < 900
 ms:MS C.Z H C.ms C.mt aa
 obs:∀w∈tab,de w.2
 free:∀n o,ah n tab=some o->bs n=false->mi o=[]
 room:∀fr:List Int,fr.Nodup->(∀n∈fr,ae n tbl= .none/\aM tab n=true/\bs n=false)->aa.length+fr.length < 64
structure Lg (T:w7):Prop extends WE T.C T.P T.H T.t T.tab T.tr T.aa T.tbl T.bs where
 Rx:T.H.n<=T.la
 lf:T.la < T.fa
 nd:T.ns.Nodup
 nl:T.ns.length < 70000
structure XX (T:w7) (fr:List Int) (i:Nat) (loc:Loc) (H:HP):Prop where
 aD:ai T.mu T.H H
 lt:T.fa < H.n
 l0:loc "self"= .ref T.C.c
 l1:loc "line"= .ref T.la
 l2:loc "fresh"= .ref T.fa
 l3:loc "at"= .int i
 line:H.g T.la= .list (T.ns.map pr)
 gf:H.g T.fa= .list (fr.map pr)
 ms:MS (jg T.C.Z T.H.n) H T.C.ms T.C.mt (T.aa++cr T.aa.length fr.length)
 ct:H.g T.C.ct= .dict (dt (T.vi fr))
 nd:fr.Nodup
 mem:∀n,n∈fr ↔ n∈T.ns.take i/\T.good n
noncomputable def Zv (T:w7) (j:Nat) (loc:Loc) (H:HP):Prop:=∃fr i,i+j=T.ns.length/\XX T fr i loc H
section
variable {G:Nat->aj} {H H0 H':HP} {Q:KV} {k:Nat} {P S Z:Nat->Prop} {T:w7}
theorem Lg.out (ok:Lg T) {a:Nat} (h:T.H.n<=a):¬T.mu a:=λq=>q.elim (λe=>aaP.mpr h (e▸ok.ms.lX)) λe=>aaP.mpr h (e▸ok.Gk)
noncomputable def Jp (C:oL) (H:HP) (tab aa:List (Int × Ob)) (tbl:List (Int × Int)) (bs:Int->Bool) (d:Di) (Q:KV):Prop:=∀(H':HP) (fa:Nat) (fr:List Int),ai (mM C.mt C.ct) H H'->H.n<=fa->fa < H'.n->H'.g fa= .list (fr.map pr)->MS C.Z H' C.ms C.mt (aa++cr aa.length fr.length)->H'.g C.ct= .dict (dt (tbl++gc fr ((aa.length:Int)+1)))->fr.Nodup->
 (∀n,n∈fr ↔ n∈cK d/\ae n tbl= .none/\aM tab n=true/\bs n=false)->Q (.ref fa) H'
theorem LE (m:aQ G) {C:oL} {t v:Nat} {tab aa:List (Int × Ob)} {tr d:Di} {tbl:List (Int × Int)} {bs:Int->Bool} {Z0:Nat->Prop} (B:WE C P H t tab tr aa tbl bs) (rv:RD Z0 H v d) (Pv:eI d) (h:Jp C H tab aa tbl bs d Q):G (k+6) "Collector.take_needed" [.ref C.c,.ref v] H Q:=by
 refine m.run 36 rfl rfl rfl (iR m (it:= .ob (.dict d)) ⟨v,rfl,rv⟩ Pv λH1 la ns f1 h1 h2 h3 AM hlen B7=>cN λH2 f2 n2 e2=>?_)
 have fL:=f1.tr f2
 refine (λ(T:w7) (e:T=⟨C,P,H,t,tab,tr,la,H1.n,ns,aa,tbl,bs⟩)=>?_) _ rfl
 have ok:Lg T:=e▸⟨B,h1,h2,AM,hlen⟩
 refine KA (Zv T) ns.length (e▸(bH ([]) 0 ⟨abE _,fL.no,n2▸aaC _,rfl,rfl,rfl,rfl,f2.keep h2 h3,e2,by rw [List.length_nil,show cr aa.length 0=[] from rfl,aaY];exact B.ms.mono fL (λa ha z=>⟨id,z,ha⟩) id id,by show H2.g C.ct= .dict (dt (tbl++[]));rw [aaY];exact fL.keep B.Gk B.tb,.nil,λn=>⟨λq=>(aaU q).elim,λq=>(aaU q.1).elim⟩⟩)) ?_
 have h:Jp T.C T.H T.tab T.aa T.tbl T.bs d Q:=e▸h
 have B7:∀n,n∈T.ns ↔ n∈cK d:=e▸B7
 clear e B rv f1 f2 fL h1 h2 h3 AM hlen n2 e2
 refine λj loc H' K I hN hC zz=>aq I λfr i q=>?_
 have I:=q.2
 have V9:T.la≠T.fa:=aaJ ok.lf
 have Rg:=aaw ok.Rx (aaI ok.lf)
 have Tl:=aaA ok.lf I.lt
 refine ak I.l3 (ak I.l1 (ad I.line (yO (λtx=>?_) λjR=>?_)))
 .rw [aaB,abA] at tx
  obtain ⟨n,hn⟩:∃n,T.ns[i]? =some n:=⟨T.ns[i],aaR tx⟩
  have V3:=jp hn
  have hj:j - 1 < j/\i+1+(j - 1)=T.ns.length:=zq tx q.1
  have ec:=I.aD.fix ok.lt ok.at_ rfl
  have kr:cX T.mu T.P T.P T.H:=λx zz z=>⟨ok.zP x z,z⟩
  have Wg:n ∉ fr:=λz=>(nX ok.nd hn) ((I.mem n).mp z).1
  have skip:¬T.good n->K .cont ((loc.upd "pair" (pr n)).upd "at" (.int ((i:Int)+1))) H':=λno=>
   hC (j - 1) _ _ hj.1 ⟨fr,i+1,hj.2,I.aD,I.lt,I.l0,I.l1,I.l2,rfl,I.line,I.gf,I.ms,I.ct,I.nd,λn'=>by
    rw [I.mem,V3,aa6,aaK]
    exact ⟨λz=>⟨.inl z.1,z.2⟩,λz=>⟨z.1.resolve_right λe=>no (e▸z.2),z.2⟩⟩⟩
  have gd:(getD (pr n) (dt (T.vi fr))).isSome=(ae n T.tbl).isSome:=by
   rw [jT,w7.vi,cc]
   cases ae n T.tbl with
   | some _=>rfl
   | none=>exact jl.trans (decide_eq_false Wg)
  refine ak I.l1 (ak I.l3 (ad I.line (dF (v:=pr n) (by rw [Int.toNat_natCast,abc,hn];rfl) (ak I.l3 (ak I.l0 (ad ec (ad I.ct ⟨bQ,rS gd ?_⟩)))))))
  cases vn:ae n T.tbl with
  | some x=>exact skip λz=>nomatch vn.symm.trans z.1
  | none=>
  refine ak I.l0 (ad ec (jC m (ok.rs.mono I.aD kr ok.zs ok.zt) ?_))
  cases ht:aM T.tab n with
  | false=>exact skip λz=>nomatch ht.symm.trans z.2.1
  | true=>
  refine ak I.l0 (ad ec ((ok.rb.mono I.aD ok.zb).2.elim λZ9 eb=>ad eb.1 ⟨(eb.2 n).1,rS (eb.2 n).2 ?_⟩))
  cases hb:T.bs n with
  | true=>exact skip λz=>nomatch hb.symm.trans z.2.2
  | false=>
  have good:∀x∈fr++[n],T.good x:=λx hx=>(aa6.mp hx).elim (λz=>((I.mem x).mp z).2) λz=>aaK.mp z▸⟨vn,ht,hb⟩
  have VG:(fr++[n]).Nodup:=abw.mpr ⟨I.nd,abu _ _,λx hx y hy e=>Wg (aaK.mp hy▸e▸hx)⟩
  have room:=ok.room (fr++[n]) VG good
  rw [aaD,abe] at room
  have KT:(T.aa++cr T.aa.length fr.length).length=T.aa.length+fr.length:=by rw [aaD,eO]
  have Wo:fr.length < 64:=aaz (aaw (abn ..) (aba _)) room
  have nmu:∀{a:Nat},T.H.n<=a->a≠T.C.mt/\a≠T.C.ct:=λh=>⟨λe=>ok.out h (.inl e),λe=>ok.out h (.inr e)⟩
  refine ak I.l0 (ad ec (I.ms.ins.elim λZy UR=>ad UR (sI m (λx z=>ok.ok.zm x z.1) ok.ok.d1 I.ms ((KT)▸room) λH2 rr g1 g2 g3 g4 g5=>ad g4 (cQ m g4 (ak I.l0 (ad (g1.fix (I.aD.lt ok.lt) ec rfl) ?_))))))
  rw [KT] at g4 g5
  have JX:=g1.ne (I.aD.lt ok.Gk) I.ct (abm ok.ok.d3)
  have YX:ae n (T.vi fr)= .none:=Option.not_isSome_iff_eq_none.mp λq=>by rw [<-jT,gd,vn] at q;exact absurd q aaE
  refine ad JX ⟨bQ,by rw [vk,w7.vi,aaD,E8];exact aaA (Nat.add_lt_add ok.tl Wo) (by decide),ng JX λH3 f3 n3 e3=>?_⟩
  have e3:H3.g T.C.ct= .dict (dt (T.vi (fr++[n]))):=e3.trans (congrArg AO.dict (by rw [KT];refine (uk YX).trans (congrArg dt ?_);rw [w7.vi,w7.vi,BA,aaW,Int.natCast_add,Int.add_right_comm]))
  have Bf:ai T.mu H' H3:=(g1.weak λzz zz e=>Or.inl e).trans f3 λzz zz e=>.inr e
  have Qa:=Bf.at I.lt (ok.out Rg) I.gf
  refine ak I.l2 (ad Qa (BF Qa (by rw [aaB];exact gA Wo) λH4 f4 n4 e4=>?_))
  have UO:ai T.mu T.H H4:=(I.aD.tr Bf).Jg f4 Rg
  have Jn:=f4.ne (Bf.lt Tl) (Bf.at Tl (ok.out ok.Rx) I.line) V9
  obtain ⟨o,ho⟩:=aa7.mp (show (ah n T.tab).isSome=true from ht)
  have WQ:=ok.rs.mono UO kr ok.zs ok.zt
  refine ak I.l1 (ad Jn (ak I.l0 (ad (UO.fix ok.lt ok.at_ rfl) (WQ.ins.elim λzz e5=>ad e5.1 (WQ.entry ho λu ru=>iR m (it:= .ob o) ru (ok.obs _ (bo ho)) λH5 a9 YO p1 p2 p3 p4 p5 p6 p7=>?_)))))
  have e9:YO=[]:=List.eq_nil_iff_forall_not_mem.mpr λx hx=>by
   have:x∈mi o:=(p7 x).mp hx
   rw [ok.free n o ho hb] at this;exact (aaU this).elim
  rw [e9] at p4
  have l4:T.la < H4.n:=f4.lt (Bf.lt Tl)
  have JV:=p1.keep l4 Jn
  refine ad JV ⟨aaJ (aax l4 p2),ad p4 ⟨by rw [aaB];exact aaI (aaA ok.nl (by decide)),ng JV λH6 f6 n6 e6=>?_⟩⟩
  have Hq:ai (bw T.H.n) H3 H6:=((f4.own Rg).tn p1).trans (f6.own ok.Rx) λzz zz e=>e
  have nw:∀a,bw T.H.n a->¬T.mu a:=λa h=>ok.out h
  refine hN (j - 1) _ _ hj.1 (bH (fr++[n]) (i+1) ⟨hj.2,(UO.tn p1).Jg f6 ok.Rx,n6▸p1.lt (f4.lt (Bf.lt I.lt)),I.l0,I.l1,I.l2,rfl,e6.trans (congrArg AO.list (aaY _)),f6.ne (p1.lt (f4.lt (Bf.lt I.lt))) (p1.keep (f4.lt (Bf.lt I.lt)) (e4.trans (by rw [aaL];rfl))) (abm V9),?_,Hq.at (f3.lt (g1.lt (I.aD.lt ok.Gk))) (λz=>aaP.mpr z ok.Gk) e3,VG,λn'=>?_⟩)
  .have:=(g5.mono f3 (λx zz z=>⟨ok.ok.zc x z.1,z⟩) ok.ok.d2 ok.ok.d3).mono Hq (P':=jg T.C.Z T.H.n) (λx zz z=>⟨Nat.not_le.mpr z.2,z⟩) (Nat.not_le.mpr ok.ms.lt) (Nat.not_le.mpr ok.ms.lX)
   rw [aaD,abe,nV,<-aaW]
   rwa [Int.natCast_add,Int.add_right_comm] at this
  .rw [V3,aa6,aa6,aaK,I.mem]
   exact ⟨λz=>z.elim (λz=>⟨.inl z.1,z.2⟩) λz=>⟨.inr z,z▸⟨vn,ht,hb⟩⟩,λz=>z.1.elim (λw=>.inl ⟨w,z.2⟩) .inr⟩
 .rw [aaB,abA] at jR
  have hm:=I.mem
  replace hm:=(List.take_of_length_le (aaP.mp jR))▸hm
  exact ak I.l2 (h H' _ fr I.aD Rg I.lt I.gf (I.ms.mono (.refl:ai aJ H' H') (λzz zz z=>⟨id,z.1⟩) id id) I.ct I.nd λn=>(hm n).trans (and_congr (B7 n) .rfl))
end
noncomputable def sK (tbl:List (Int × Int)) (tab M:List (Int × Ob)) (n:Int):List (Int × Ob):=match ae n tbl with
 | some q=>((ah n tab).map λo=>bM q (BM tbl o) M).getD M
 | .none=>M
noncomputable def vt (tbl:List (Int × Int)) (tab:List (Int × Ob)) (l:List Int) (M:List (Int × Ob)):List (Int × Ob):=l.foldl (sK tbl tab) M
theorem jO {tbl:List (Int × Int)} {tab M:List (Int × Ob)} {n q:Int} {o:Ob} (h1:ae n tbl=some q) (h2:ah n tab=some o):sK tbl tab M n=bM q (BM tbl o) M:=by unfold sK;rw [h1,h2];rfl
theorem Bv {tbl:List (Int × Int)} {tab:List (Int × Ob)} {L l:List Int}:∀{M:List (Int × Ob)},M.map (·.1)=L->(∀n∈l,∀q,ae n tbl=some q->q∈L)->(vt tbl tab l M).map (·.1)=L:=by
 induction l with
 | nil=>exact λh zz=>h
 | cons n r ih=>
  refine λh hq=>ih ?_ λx hx=>hq x (.tail _ hx)
  unfold sK
  cases e1:ae n tbl with
  | none=>exact h
  | some q=>cases ah n tab with
   | none=>exact h
   | some o=>exact (eT ((h)▸hq n (.head _) q e1)).trans h
noncomputable def fT (d:Di):Di:=cJ "Type" (.at (.name "Page")) (d.filter λx=>!decide (x.1="Parent"))
theorem j6 (d:Di):(fT d).length<=d.length+1:=aaw b3 (aa1 (List.length_filter_le ..))
section
variable {G:Nat->aj} {H H0 H':HP} {Q:KV} {QS:KS} {k s t c ms ct b mt fa:Nat} {P S Z:Nat->Prop} {tab aa:List (Int × Ob)} {tr d:Di} {tbl:List (Int × Int)}
structure Se (P Z:Nat->Prop) (H:HP) (c s t ms ct b mt:Nat) (tab aa:List (Int × Ob)) (tr:Di) (tbl:List (Int × Int)):Prop where
 rs:RS P H s t tab tr
 obs:∀w∈tab,de w.2
 lt:c < H.n
 at_:H.g c=vc s ms ct b
 Gk:ct < H.n
 tb:H.g ct= .dict (dt tbl)
 zP:∀x,P x->x≠mt
 zs:s≠mt
 zt:t≠mt
 zZ:∀x,Z x->x≠mt
 zN:∀x,H.n<=x->Z x
 d1:ms≠mt
 d3:ct≠mt
 ms:MS Z H ms mt aa
structure Sv (Z:Nat->Prop) (H:HP) (c ms mt:Nat) (aa M:List (Int × Ob)) (loc:Loc) (H':HP):Prop where
 l0:loc "self"= .ref c
 keys:M.map (·.1)=aa.map (·.1)
 aD:ai (atS mt) H H'
 ms:MS Z H' ms mt M
theorem QA (m:aQ G) {fr:List Int} (B:Se P Z H c s t ms ct b mt tab aa tr tbl) (Yp:fa < H.n) (d4:fa≠mt) (ef:H.g fa= .list (fr.map pr))
  (hq:∀n∈fr,∃q o,ae n tbl=some q/\(1<=q/\q<=aa.length)/\ah n tab=some o) (h:∀H',ai (atS mt) H H'->MS Z H' ms mt (vt tbl tab fr aa)->Q .none H'):G (k+8) "Collector.lay" [.ref c,.ref fa] H Q:=by
 refine m.run 37 rfl rfl rfl (dF (aH ef) (Mt pr (Sv Z H c ms mt aa) (sK tbl tab) (λI=>bC I.aD Yp d4 ⟨aH ef,rfl⟩) fr (λn hn M loc H' C I hN=>aq (hq n hn) λq o z=>?_) ⟨rfl,rfl,.refl,B.ms⟩ (λloc' H' I=>h H' I.aD I.ms) rfl))
 have f:=I.aD
 have ec:=f.fix B.lt B.at_ rfl
 have et:=f.ne B.Gk B.tb B.d3
 have Ws:=B.rs.mono f (rC B.zP) B.zs B.zt
 refine ak I.l0 (ad ec (I.ms.ins.elim λZy UR=>ad UR (ak I.l0 (ad ec (ad et ⟨bQ,dF (v:=pr q) (pJ.trans (congrArg (Option.map pr) z.1)) (ak I.l0 (ad ec (Ws.ins.elim λzz e5=>ad e5.1 (Ws.entry z.2.2 λu ru=>ak I.l0 (ad ec ?_)))))⟩)))))
 refine IQ m ru (B.obs _ (bo z.2.2)) (f.lt B.Gk) et λH2 v' f2 rv=>?_
 have ml:M.length=aa.length:=by have:=congrArg List.length I.keys;rwa [aaB,aaB] at this
 refine se m B.zZ B.d1 (I.ms.mono f2 aV id id) ⟨z.2.1.1,ml▸z.2.1.2⟩ (rv.mono (.refl:ai aJ H2 H2) λa zz ha=>⟨id,B.zN a (aaw f.le ha)⟩) λH3 f3 zz KP=>hN _ _ ⟨I.l0,?_,(f.tn f2).tr f3,(jO z.1 z.2.2).symm▸KP⟩
 exact (jO z.1 z.2.2)▸(eT (I.keys▸(bD B.ms.num).mpr z.2.1)).trans I.keys
theorem Mi (m:aQ G) {p pb f:Nat} (hp:p < H.n) (ep:H.g p=AG pb f) (rd:RD P H f d) (hl:d.length < 64) (h:vV (bf P H.n) Q H (fT d)):G (k+2) "bare_page" [.ref p] H Q:=by
 refine rd.ex.elim λes l=>m.run 38 rfl rfl rfl (ad ep ?_)
 refine dB (q:=fC (bf P H.n)) (qS l.1 l.2) rd.lt id (λx=>!decide (x.1="Parent")) (λzz zz zz zz f z=>z.mn f) gu (dC▸aaI (gA hl)) (λv x H' C N rv f y n=>?_) λH1 b vs f1 Ku qc e2 l1=>?_
 .obtain rfl:=rv.1
  have q:=rd.mn f
  exact Rq (Dt (λe=>ad (f.fix hp ep rfl) (q.idx (ch q.nd rv.2) λu ru=>y e _ _ .refl ⟨u,rfl,ru.fA λzz zz h=>.inl h⟩)) n)
 .rw [aby] at l1
  refine iS e2 l1 ((List.filter_sublist.map _).nodup rd.nd) (.inr f1.le) λH3 c f3 A1 r3=>fX m λH4 f4 n4 e4=>?_
  have le:H.n<=c:=aaw f1.le A1
  refine (r3.mn f4).set (va:= .at (.name "Page")) ⟨_,rfl,n4▸aaC _,e4⟩ (aaz (List.length_filter_le ..) (gA hl)) λH5 f5 n5 r5=>?_
  exact h H5 c (((f1.tr f3).tr f4).up f5 le) le r5
end
structure Doc where
 tab:List (Int × Ob)
 tr:Di
 c:Int
 sp:List aW
noncomputable def Doc.bs (D:Doc):Int->Bool:=Er D.sp D.c
structure DocOk (D:Doc):Prop where
 tree:Tree D.tab D.tr D.sp
 root:look "Root" D.tr=some (.at (.ref D.c))
 ok:∀w∈D.tab,de w.2
 Kw:eI D.tr
 free:∀n o,ah n D.tab=some o->D.bs n=false->mi o=[]
 X4:∀fr:List Int,fr.Nodup->(∀n∈fr,aM D.tab n=true/\D.bs n=false)->fr.length<=4
noncomputable abbrev Pl:=List (Nat × (Int × Di))
noncomputable def cy (pl:Pl):List (Nat × Int):=pl.map λx=>(x.1,x.2.1)
noncomputable def Lo (i:Nat) (a:List (Int × Int) × Int) (x:Nat × Int):List (Int × Int) × Int:=(if x.1=i then ie x.2 a.2 a.1 else a.1,a.2+1)
noncomputable def fS (i:Nat) (ws:List (Nat × Int)):List (Int × Int):=(ws.foldl (Lo i) ([],3)).1
theorem Nr {i:Nat} {ws:List (Nat × Int)}:∀{a:List (Int × Int) × Int},(ws.foldl (Lo i) a).2=a.2+ws.length:=by
 induction ws with
 | nil=>exact (Int.add_zero _).symm
 | cons x ws ih=>exact ih.trans (by show _+1+(_:Int)=_;rw [aa2,Int.natCast_add,Int.add_assoc,Int.add_comm 1];rfl)
theorem f0 {i:Nat} {x:Nat × Int} {ws:List (Nat × Int)}:fS i (ws++[x])=if x.1=i then ie x.2 (3+ws.length) (fS i ws) else fS i ws:=by
 unfold fS
 rw [List.foldl_append]
 show (if x.1=i then ie x.2 (ws.foldl (Lo i) ([],3)).2 _ else _)=_
 rw [Nr]
theorem jz {n m q:Int} {tbl:List (Int × Int)}:ae m (ie n q tbl)=if ae n tbl= .none/\n=m then some q else ae m tbl:=by
 unfold ie
 cases h:ae n tbl with
 | some x=>exact (if_neg λz=>nomatch z.1).symm
 | none=>
  show ae m (tbl++[(n,q)])=_
  rw [cc]
  by_cases e:n=m
  .rw [if_pos ⟨rfl,e⟩,<-e,h,dZ];rfl
  .rw [if_neg λz=>e z.2,dR e];cases ae m tbl<;>rfl
theorem FF {i:Nat} {m q:Int} (ws:List (Nat × Int)):ae m (fS i ws)=some q->∃j:Nat,ws[j]? =some (i,m)/\q=3+j:=by
 refine fY (p:=λws=>ae m (fS i ws)=some q->∃j:Nat,ws[j]? =some (i,m)/\q=3+j) (λh=>nomatch h) (λl a ih h=>?_) ws
 have old:ae m (fS i l)=some q->∃j:Nat,(l++[a])[j]? =some (i,m)/\q=3+j:=λh=>(ih h).imp λj z=>⟨by rw [abz (aaZ.mp z.1).1];exact z.1,z.2⟩
 rw [f0] at h
 by_cases e:a.1=i
 .rw [if_pos e,jz] at h
  refine (Classical.em (ae a.2 (fS i l)= .none/\a.2=m)).elim (λe2=>?_) λe2=>?_
  .rw [if_pos e2] at h
   exact ⟨l.length,by rw [List.getElem?_concat_length,<-e,<-e2.2],(aay h).symm⟩
  .rw [if_neg e2] at h;exact old h
 .rw [if_neg e] at h;exact old h
theorem Q5 {i:Nat} {m:Int} (ws:List (Nat × Int)):(i,m)∈ws->(ae m (fS i ws)).isSome=true:=by
 refine fY (p:=λws=>(i,m)∈ws->(ae m (fS i ws)).isSome=true) (λh=>(aaU h).elim) (λl a ih h=>?_) ws
 have keep:(ae m (fS i l)).isSome=true->(ae m (fS i (l++[a]))).isSome=true:=λh=>by
  rw [f0]
  by_cases e:a.1=i
  .rw [if_pos e,jz]
   by_cases e2:ae a.2 (fS i l)= .none/\a.2=m
   .rw [if_pos e2];rfl
   .rw [if_neg e2];exact h
  .rw [if_neg e];exact h
 refine (aa6.mp h).elim (λh=>keep (ih h)) λh=>?_
 cases q:ae m (fS i l) with
 | some x=>exact keep (q▸rfl)
 | none=>
  rw [<-aaK.mp h,f0,if_pos rfl,jz,if_pos ⟨q,rfl⟩];rfl
theorem Cd {m q:Int} {l:List (Int × Int)} (h:ae m l=some q):(m,q)∈l:=by
 induction l with
 | nil=>cases h
 | cons e r ih=>
  obtain ⟨j,w⟩:=e
  by_cases z:j=m
  .rw [z,dZ] at h;rw [z,aay h];exact .head _
  .rw [dR z] at h;exact .tail _ (ih h)
theorem OY {m q:Int} {l:List (Int × Int)} (nd:(l.map (·.1)).Nodup) (h:(m,q)∈l):ae m l=some q:=by
 induction l with
 | nil=>cases h
 | cons e r ih=>
  have nd:=aa8.mp nd
  refine (aaH.mp h).elim (λz=>z▸dZ) λz=>?_
  exact (dR λx=>nd.1 (aaG.mpr ⟨_,z,x.symm⟩)).trans (ih nd.2 z)
theorem PB {l:List Int}:∀{q:Int},(gc l q).map (·.1)=l:=by
 induction l with
 | nil=>exact rfl
 | cons a l ih=>exact congrArg _ ih
theorem wH {l:List Int}:∀{q:Int} {x:Int × Int},x∈gc l q->q<=x.2/\x.2 < q+l.length:=by
 induction l with
 | nil=>exact λh=>(aaU h).elim
 | cons a l ih=>
  intro q x h
  rw [aa2]
  refine (aaH.mp h).elim (λe=>e▸ ?_) λe=>?_
  .show q<=q/\q < q+(l.length+1:Nat);exact ⟨Int.le_refl _,Int.lt_add_of_pos_right _ (Int.natCast_pos.mpr (Nat.succ_pos _))⟩
  .have:=ih e;exact ⟨Int.le_of_lt this.1,tS this.2 zs.symm⟩
theorem LK {l:List Int}:∀{q:Int},((gc l q).map (·.2)).Nodup:=by
 induction l with
 | nil=>exact List.Pairwise.nil
 | cons a l ih=>exact λ{q}=>aa8.mpr ⟨λh=>(aaG.mp h).elim λx z=>by have:=wH z.1;have e:x.2=q:=z.2;exact Int.ne_of_lt this.1 e.symm,ih⟩
theorem Qz {l:List Int}:∀{q p:Int},q<=p->p < q+l.length->∃n∈l,(n,p)∈gc l q:=by
 induction l with
 | nil=>intro q p h1 h2;exact absurd h1 (Int.not_le.mpr (tS h2 (Int.add_zero q)))
 | cons a l ih=>
  intro q p h1 h2
  by_cases e:p=q
  .exact e▸⟨a,.head _,.head _⟩
  .rw [aa2] at h2
   exact (ih (q:=q+1) (p:=p) (MZ h1 (abm e)) (tS h2 zs)).imp λn z=>⟨.tail _ z.1,.tail _ z.2⟩
theorem rR {tbl:List (Int × Int)} {a:At} (h:mO a= .none):oA tbl a=a:=by
 cases a with
 | ref n=>cases h
 | _=>rfl
theorem rY {tbl:List (Int × Int)} {v:Va} (h:gS v=[]):ib tbl v=v:=by
 cases v with
 | «at» a=>exact congrArg _ (rR (by cases q:mO a with | none=>rfl | some x=>rw [show gS (.at a)=(mO a).toList from rfl,q] at h;exact nomatch h))
 | arr xs=>exact congrArg _ ((abq (g:=id) λa ha=>rR (a:=a) (by
   cases q:mO a with
   | none=>rfl
   | some x=>
    have:x∈xs.filterMap mO:=abB.mpr ⟨a,ha,q⟩
    rw [show xs.filterMap mO=[] from h] at this
    exact (aaU this).elim)).trans (aby _))
theorem Au {v:Va}:v.nul=true ↔ v= .at .none:=by
 cases v with
 | «at» a=>cases a with
  | none=>exact ⟨λzz=>rfl,λzz=>rfl⟩
  | _=>exact ⟨nofun,nofun⟩
 | arr xs=>exact ⟨nofun,nofun⟩
theorem rj {tbl:List (Int × Int)} {d:Di} (h:cK d=[]) (nn:∀x∈d,x.2≠ .at .none):jt tbl d=d:=by
 unfold jt
 rw [(abq λx hx=>by rw [rY (List.flatMap_eq_nil_iff.mp h x hx)];rfl:(d.map λx=>(x.1,ib tbl x.2))=d.map id),aby]
 exact List.filter_eq_self.mpr λx hx=>congrArg Bool.not (Bool.eq_false_iff.mpr λq=>nn x hx (Au.mp q))
theorem rH {tbl:List (Int × Int)} {o:Ob} (h:mi o=[]) (ok:de o):BM tbl o=o:=by
 cases o with
 | null=>rfl
 | dict d=>exact congrArg _ (rj h λx hx=>(ok.2 x hx).1)
 | stream d b=>exact congrArg (Ob.stream · b) (rj h λx hx=>(ok.2 x hx).1)
section
variable {tbl:List (Int × Int)} {tab:List (Int × Ob)} {q n:Int} {o:Ob} {w:Int × Ob} {l:List Int}
theorem iM {M:List (Int × Ob)} (h:ae n tbl= .none\/ah n tab= .none):sK tbl tab M n=M:=by
 unfold sK
 cases e:ae n tbl with
 | none=>rfl
 | some q=>rw [h.resolve_left λz=>nomatch e.symm.trans z];rfl
theorem nZ:∀{M:List (Int × Ob)},(∀n∈l,ae n tbl≠some q)->ah q (vt tbl tab l M)=ah q M:=by
 induction l with
 | nil=>exact λzz=>rfl
 | cons m r ih=>
  refine λ{M} h=>(ih λn hn=>h n (.tail _ hn)).trans ?_
  cases e1:ae m tbl with
  | none=>rw [iM (.inl e1)]
  | some p=>cases e2:ah m tab with
   | none=>rw [iM (.inr e2)]
   | some o=>rw [jO e1 e2,cG,if_neg λe:p=q=>h m (.head _) (e▸e1)]
theorem Dq (h1:ae n tbl=some q) (h2:ah n tab=some o):∀{M:List (Int × Ob)},l.Nodup->n∈l->(∀m∈l,ae m tbl=some q->m=n)->ah q (vt tbl tab l M)=some (BM tbl o):=by
 induction l with
 | nil=>exact λzz h=>(aaU h).elim
 | cons m r ih=>
  intro M nd hn hu
  refine (Classical.em (n∈r)).elim (λe=>?_) λe=>?_
  .exact ih (aa8.mp nd).2 e λx hx=>hu x (.tail _ hx)
  .have e':n=m:=(aaH.mp hn).resolve_right e
   exact (nZ λx hx hq=>e (hu x (.tail _ hx) hq▸hx)).trans (by rw [<-e',jO h1 h2,cG,if_pos rfl])
theorem oC (h:w∈bM q o tab):w.2=o\/w∈tab:=by
 induction tab with
 | nil=>exact .inl (aaK.mp h▸rfl)
 | cons e r ih=>
  obtain ⟨j,v⟩:=e
  by_cases z:j=q
  .rw [z,sT] at h;exact (aaH.mp h).imp (λx:w=(q,o)=>x▸rfl) (.tail _)
  .rw [ti z] at h;exact (aaH.mp h).elim (λx=>.inr (x▸ .head _)) λx=>(ih x).imp id (.tail _)
theorem EK:∀{M:List (Int × Ob)},w∈vt tbl tab l M->w∈M\/∃n o,n∈l/\ah n tab=some o/\w.2=BM tbl o:=by
 induction l with
 | nil=>exact .inl
 | cons m r ih=>
  intro M h
  refine (ih h).elim (λh=>?_) λh=>.inr (h.imp λn z=>z.imp λo z=>⟨.tail _ z.1,z.2⟩)
  cases e1:ae m tbl with
  | none=>rw [iM (.inl e1)] at h;exact .inl h
  | some p=>cases e2:ah m tab with
   | none=>rw [iM (.inr e2)] at h;exact .inl h
   | some o=>rw [jO e1 e2] at h;exact (oC h).elim (λz=>.inr (bH m o ⟨.head _,e2,z⟩)) .inl
end
noncomputable def eA (i:Nat):List (Nat × Int)->Int->List (Int × Int)
 | [],_=>[]
 | x::r,q=>if x.1=i then (x.2,q)::eA i r (q+1) else eA i r (q+1)
section
variable {i i':Nat} {m p q:Int} {E F:List (Nat × Int)} {fr:List Int}
theorem G8 {q:Int} {n:Nat}:q+1+n=q+(n+1:Nat):=by rw [Int.natCast_add,Int.add_assoc,Int.add_comm 1];rfl
theorem rU:∀{q:Int},eA i (E++F) q=eA i E q++eA i F (q+E.length):=by
 induction E with
 | nil=>exact λ{q}=>by rw [List.nil_append,List.length_nil,Int.natCast_zero,Int.add_zero];rfl
 | cons x E ih=>
  intro q
  show (if x.1=i then _::eA i (E++F) (q+1) else eA i (E++F) (q+1))=(if x.1=i then _ else _)++_
  rw [ih,aa2,G8]
  by_cases e:x.1=i
  .rw [if_pos e,if_pos e];rfl
  .rw [if_neg e,if_neg e]
theorem qM:∀{q:Int},eA i (fr.map λn=>(i,n)) q=gc fr q:=by
 induction fr with
 | nil=>exact rfl
 | cons n fr ih=>exact (if_pos rfl).trans (congrArg _ ih)
theorem xY (h:i≠i'):∀{q:Int},eA i' (fr.map λn=>(i,n)) q=[]:=by
 induction fr with
 | nil=>exact rfl
 | cons n fr ih=>exact (if_neg h).trans ih
theorem v8:∀{q:Int},ae m (eA i E q)=some p->∃k:Nat,E[k]? =some (i,m)/\p=q+k:=by
 induction E with
 | nil=>exact λh=>nomatch h
 | cons x E ih=>
  intro q h
  have old:ae m (eA i E (q+1))=some p->∃k:Nat,(x::E)[k]? =some (i,m)/\p=q+k:=λh=>(ih h).elim λk z=>⟨k+1,z.1,z.2.trans G8⟩
  have h:ae m (if x.1=i then _ else _)=some p:=h
  by_cases e:x.1=i
  .rw [if_pos e] at h
   by_cases e2:x.2=m
   .rw [e2,dZ] at h
    exact ⟨0,by rw [<-e,<-e2];rfl,(aay h).symm.trans (Int.add_zero q).symm⟩
   .rw [dR e2] at h;exact old h
  .rw [if_neg e] at h;exact old h
theorem iI:∀{q:Int} {k:Nat},E.Nodup->E[k]? =some (i,m)->ae m (eA i E q)=some (q+k):=by
 induction E with
 | nil=>exact λzz h=>nomatch h
 | cons x E ih=>
  intro q k nd h
  have nd:=aa8.mp nd
  show ae m (if x.1=i then _ else _)=_
  cases k with
  | zero=>
   obtain rfl:=aay h
   exact (congrArg _ (if_pos rfl)).trans (dZ.trans (congrArg _ (Int.add_zero q).symm))
  | succ k=>
   have old:=(ih (q:=q+1) nd.2 h).trans (congrArg _ G8)
   by_cases e:x.1=i
   .rw [if_pos e,dR λe2=>nd.1 (by rw [show x=(i,m) from Prod.ext e e2];exact aaO (show E[k]? =_ from h))]
    exact old
   .rw [if_neg e];exact old
end
noncomputable def bO (pl:Pl) (E:List (Nat × Int)) (i:Nat):List (Int × Int):=fS i (cy pl)++eA i E (3+(pl.length:Int))
theorem wD {k:String} {v:Va} {x:String × Va} {l:Di} (h:x∈cJ k v l):x.2=v\/x∈l:=by
 induction l with
 | nil=>exact .inl (aaK.mp h▸rfl)
 | cons e l ih=>
  obtain ⟨j,w⟩:=e
  by_cases z:j=k
  .rw [z,jL] at h;exact (aaH.mp h).imp (λe:x=(k,v)=>e▸rfl) (.tail _)
  .rw [jX z] at h;exact (aaH.mp h).elim (λe=>.inr (e▸ .head _)) λe=>(ih e).imp id (.tail _)
noncomputable def dM (tb:List (Int × Int)) (d:Di):Di:=cJ "Parent" (.at (.ref 2)) (jt tb (fT d))
theorem tJ {d:Di} (ok:eI d):∀x∈fT d,x.2≠ .at .none/\yI x.2:=λx hx=>(wD hx).elim (λe=>e▸⟨nofun,trivial⟩) λe=>ok.2 x (abk.mp e).1
theorem AB {tb:List (Int × Int)} {d:Di}:(jt tb d).length<=d.length:=aaw (List.length_filter_le ..) (aaS (aaB _))
theorem Gy {tb:List (Int × Int)} {d:Di} (ok:eI d) (hl:d.length < 60):eI (dM tb d):=by
 refine ⟨aaz (aaw b3 (aa1 (aaw AB (j6 d)))) (aax (Nat.add_lt_add_right hl 2) (by decide)),λx hx=>(wD hx).elim (λe=>e▸⟨nofun,trivial⟩) λe=>?_⟩
 have e:=abk.mp e
 refine ⟨λq=>(by rw [q] at e;exact Bool.noConfusion e.2),?_⟩
 refine (aaG.mp e.1).elim λy z=>?_
 have:=(tJ ok y z.1).2
 rw [<-z.2]
 revert this
 cases y.2 with
 | «at» a=>exact id
 | arr ys=>exact λh=>aaz (aaS (aaB _)) h
theorem pR {tb MM:List (Int × Int)} {a:At} (h:∀n,mO a=some n->ae n tb=ae n MM):oA tb a=oA MM a:=by
 cases a with
 | ref n=>show ((ae n tb).map _).getD _=_;rw [h n rfl];rfl
 | _=>rfl
theorem xb {tb MM:List (Int × Int)} {d:Di} (h:∀n∈cK d,ae n tb=ae n MM):jt tb d=jt MM d:=by
 refine congrArg _ (abq λx hx=>congrArg (Prod.mk x.1) ?_)
 have h:∀n∈gS x.2,ae n tb=ae n MM:=λn hn=>h n (List.mem_flatMap.mpr ⟨x,hx,hn⟩)
 revert h
 cases x.2 with
 | «at» a=>exact λh=>congrArg _ (pR λn e=>h n (Option.mem_toList.mpr e))
 | arr ys=>exact λh=>congrArg _ (abq λa ha=>pR λn e=>h n (abB.mpr ⟨a,ha,e⟩))
structure Ent (docs:List Doc) (pl:Pl) (j:Nat) (aa:List (Int × Ob)) (k i:Nat) (n:Int) (D:Doc) (o:Ob):Prop where
 doc:docs[i]? =some D
 src:ah n D.tab=some o
 bs:D.bs n=false
 at_:ah (3+(pl.length:Int)+k) aa=some o
 why:∃(j':Nat) (n':Int) (d:Di),j' < j/\pl[j']? =some (i,(n',d))/\n∈cK (fT d)
structure di (docs:List Doc) (pl:Pl) (j:Nat) (aa:List (Int × Ob)) (E:List (Nat × Int)):Prop where
 num:aa.map (·.1)=(List.range aa.length).map λ(i:Nat)=>(i:Int)+1
 len:aa.length=2+pl.length+E.length
 nd:E.Nodup
 ents:∀k i n,E[k]? =some (i,n)->∃D o,Ent docs pl j aa k i n D o
 done:∀(j' i:Nat) (n:Int) (d:Di),j' < j->pl[j']? =some (i,(n,d))->ah (3+(j':Int)) aa=some (.dict (dM (bO pl E i) d))/\∀D,docs[i]? =some D->∀m∈cK (fT d),aM D.tab m=true->D.bs m=false->(ae m (bO pl E i)).isSome=true
 Jv:∀w∈aa,de w.2
theorem oV {pl:Pl} {E:List (Nat × Int)} {i:Nat} {fr:List Int}:bO pl (E++fr.map λn=>(i,n)) i=bO pl E i++gc fr (3+(pl.length:Int)+E.length):=by unfold bO;rw [rU,qM,aaW]
theorem qJ {pl:Pl} {E:List (Nat × Int)} {i i':Nat} {fr:List Int} (h:i≠i'):bO pl (E++fr.map λn=>(i,n)) i'=bO pl E i':=by unfold bO;rw [rU,xY h,aaY]
theorem xa {a b:List (Int × Int)} {m:Int} (h:(ae m a).isSome=true\/ae m b= .none):ae m (a++b)=ae m a:=by
 rw [cc]
 cases e:ae m a with
 | some x=>rfl
 | none=>exact h.elim (λz=>by rw [e] at z;exact absurd z aaE) id
theorem Ir {fr:List Int} {q m:Int} (h:m ∉ fr):ae m (gc fr q)= .none:=Option.not_isSome_iff_eq_none.mp λz=>h (of_decide_eq_true (jl.symm.trans z))
theorem qX {tab b:List (Int × Ob)} {q:Int} (h:∀w∈b,w.1≠q):ah q (tab++b)=ah q tab:=by
 rw [kK]
 cases e:ah q tab with
 | some x=>rfl
 | none=>exact oj λz=>(aaG.mp z).elim λw z=>h w z.1 z.2
theorem uB {N:Nat} {q:Int}:q∈(List.range N).map (λ(i:Nat)=>(i:Int)+1) ↔ 1<=q/\q<=N:=by
 refine aaG.trans ⟨λh=>h.elim λi h=>?_,λh=>⟨(q - 1).toNat,List.mem_range.mpr ?_,?_⟩⟩
 .have:=List.mem_range.mp h.1;exact zw h.2 this
 .exact zt h.1 (zr h.2)
 .exact zv h.1
theorem yl {aa:List (Int × Ob)} {n:Nat} (h:aa.map (·.1)=(List.range aa.length).map λ(i:Nat)=>(i:Int)+1):(aa++cr aa.length n).map (·.1)=(List.range (aa.length+n)).map λ(i:Nat)=>(i:Int)+1:=by
 rw [aaL,h,List.range_add,aaL,cr,aa5,aa5]
 exact congrArg _ (abq λx zz=>by show (aa.length:Int)+1+x=((aa.length+x:Nat):Int)+1;exact Int.add_right_comm _ 1 _)
theorem di.step {docs:List Doc} {pl:Pl} {j i:Nat} {n:Int} {d:Di} {D:Doc} {aa:List (Int × Ob)} {E:List (Nat × Int)} {fr:List Int} (st:di docs pl j aa E) (dk:DocOk D) (hj:pl[j]? =some (i,(n,d))) (hD:docs[i]? =some D) (ok:eI d) (hl:d.length < 60)
  (nd:fr.Nodup) (qx:∀m,m∈fr ↔ m∈cK (fT d)/\ae m (bO pl E i)= .none/\aM D.tab m=true/\D.bs m=false):
  di docs pl (j+1) (bM (3+(j:Int)) (.dict (dM (bO pl E i++gc fr ((aa.length:Int)+1)) d)) (vt (bO pl E i++gc fr ((aa.length:Int)+1)) D.tab fr (aa++cr aa.length fr.length))) (E++fr.map λn=>(i,n)):=by
 have Q6:j < pl.length:=(aaZ.mp hj).1
 have hq:(aa.length:Int)+1=3+(pl.length:Int)+E.length:=by exact (st.len)▸TT
 have eb:bO pl E i++gc fr ((aa.length:Int)+1)=bO pl (E++fr.map λn=>(i,n)) i:=by rw [oV,hq]
 rw [eb]
 have B0:∀(k:Nat) (m:Int),fr[k]? =some m->ae m (bO pl (E++fr.map λn=>(i,n)) i)=some ((aa.length:Int)+1+k):=λk m hm=>by
  rw [<-eb,cc,((qx m).mp (aaO hm)).2.1]
  show ae m (gc _ _)=_
  rw [<-qM (i:=i)]
  exact iI (nd.map _ λzz zz h e=>h (Prod.mk.inj e).2) (by rw [abc,hm];rfl)
 have inj:∀a b p,a∈fr->b∈fr->ae a (bO pl (E++fr.map λn=>(i,n)) i)=some p->ae b (bO pl (E++fr.map λn=>(i,n)) i)=some p->a=b:=λa b p ha hb h1 h2=>(abo ha).elim λk hk=>(abo hb).elim λl hl=>by
  rw [B0 k a hk] at h1;rw [B0 l b hl] at h2
  have:k=l:=by have:=aay (h1.trans h2.symm);exact qD (Int.add_left_cancel this)
  rw [this,hl] at hk;exact (aay hk).symm
 have keys:=Bv (tbl:=bO pl (E++fr.map λn=>(i,n)) i) (tab:=D.tab) (yl (n:=fr.length) st.num) λm hm q hq=>(abo hm).elim λk hk=>by
  rw [B0 k m hk] at hq
  have:=(aaZ.mp hk).1
  rw [<-aay hq,uB];exact Uc this
 have J7:=(eT (q:=3+(j:Int)) (o:= .dict (dM (bO pl (E++fr.map λn=>(i,n)) i) d)) (by rw [keys,uB,st.len];exact Ul Q6)).trans keys
 have yR:=congrArg List.length J7
 rw [aaB,aaB,List.length_range] at yR
 have other:∀q:Int,q<=aa.length->q≠3+(j:Int)->∀{o},ah q aa=o->ah q (bM (3+(j:Int)) (.dict (dM (bO pl (E++fr.map λn=>(i,n)) i) d)) (vt (bO pl (E++fr.map λn=>(i,n)) i) D.tab fr (aa++cr aa.length fr.length)))=o:=λq h1 h2 o ho=>by
  rw [cG,if_neg (abm h2),nZ λm hm hq=>(abo hm).elim λk hk=>by rw [B0 k m hk] at hq;have:=aay hq;exact Int.not_le.mpr (tS (zg _ _) this) h1,qX (b:=cr aa.length fr.length) λw hw=>(aaG.mp hw).elim λx z=>by have:(aa.length:Int)+1+x=w.1:=congrArg Prod.fst z.2;exact Int.ne_of_gt (Int.lt_of_le_of_lt h1 (tS (zg _ _) this))]
  exact ho
 have same:∀i' m,(ae m (bO pl E i')).isSome=true\/i≠i'\/m ∉ fr->ae m (bO pl (E++fr.map λn=>(i,n)) i')=ae m (bO pl E i'):=λi' m h=>by
  by_cases e:i=i'
  .subst e
   rw [oV]
   exact xa (h.imp id λz=>Ir (Or.resolve_left z λw=>w rfl))
  .rw [qJ e]
 refine ⟨J7.trans (yR.symm▸rfl),by rw [yR,aaD,aaB,st.len,aa9],abw.mpr ⟨st.nd,nd.map _ λzz zz h e=>h (Prod.mk.inj e).2,λx hx y hy e=>?_⟩,λk i' m hk=>?_,λj' i' n' d' Xk Uy=>?_,λw hw=>?_⟩
 .refine (aaG.mp hy).elim λm z=>(abo hx).elim λk hk=>?_
  have h0:=((qx m).mp z.1).2.1
  rw [e,<-z.2] at hk
  have h1:=iI (q:=3+(pl.length:Int)) st.nd hk
  unfold bO at h0
  replace h0:=(cc)▸h0
  cases q:ae m (fS i (cy pl))<;>replace h0:=(q)▸h0
  .exact nomatch h1.symm.trans h0
  .cases h0
 .by_cases y7:k < E.length
  .rw [abz y7] at hk
   exact (st.ents k i' m hk).imp λD' z=>z.imp λo z=>⟨z.doc,z.src,z.bs,other _ (by rw [st.len];exact TD y7) (Sd Q6) z.at_,z.why.imp λj' w=>w.imp λzz w=>w.imp λzz w=>⟨Nat.lt_succ_of_lt w.1,w.2⟩⟩
  .rw [List.getElem?_append_right (aaP.mp y7),abc] at hk
   cases hm:fr[k - E.length]? with
   | none=>rw [hm] at hk;exact nomatch hk
   | some m'=>
    replace hk:=(hm)▸hk
    cases aay hk
    have UH:=aaO hm
    have h1:=(qx m).mp UH
    obtain ⟨o,ho⟩:=aa7.mp (show (ah m D.tab).isSome=true from h1.2.2.1)
    have lk:=B0 _ m hm
    refine (bH D o ⟨hD,ho,h1.2.2.2,?_,j,n,d,aaC _,hj,h1.1⟩)
    rw [(show 3+(pl.length:Int)+k=(aa.length:Int)+1+(k - E.length:Nat) from by exact (st.len)▸T1 y7),cG,if_neg ((st.len)▸Td Q6),Dq lk ho nd UH λx hx hq=>inj _ _ _ hx UH hq lk,rH (dk.free m o ho h1.2.2.2) (dk.ok _ (bo ho))]
 .by_cases ej:j'=j
  .rw [ej] at Uy ⊢
   cases aay (hj.symm.trans Uy)
   refine ⟨by rw [cG,if_pos rfl],λD' ML m hm ht hb=>?_⟩
   cases aay (hD.symm.trans ML)
   by_cases q:m∈fr
   .exact (abo q).elim λk hk=>B0 k m hk▸rfl
   .rw [same i m (.inr (.inr q))]
    exact Option.isSome_iff_ne_none.mpr λh=>q ((qx m).mpr ⟨hm,h,ht,hb⟩)
  .have z:=st.done j' i' n' d' (Nat.lt_of_le_of_ne (Nat.le_of_lt_succ Xk) ej) Uy
   have eqs:∀m∈cK (fT d'),ae m (bO pl (E++fr.map λn=>(i,n)) i')=ae m (bO pl E i'):=λm hm=>same i' m (by
    by_cases e:i=i'
    .by_cases q:m∈fr
     .have w:=((qx m).mp q).2.2
      exact .inl (z.2 D (e▸hD) m hm w.1 w.2)
     .exact .inr (.inr q)
    .exact .inr (.inl e))
   refine ⟨other _ (by rw [st.len];exact Tt Q6 Xk) (λe=>ej (qD (Int.add_left_cancel e))) (z.1.trans (congrArg (λx=>some (Ob.dict (cJ _ _ x))) (xb λm hm=>(eqs m hm).symm))),λD' ML m hm ht hb=>?_⟩
   rw [eqs m hm];exact z.2 D' ML m hm ht hb
 .refine (oC hw).elim (λe=>e▸Gy ok hl) λe=>(EK e).elim (λe=>(aa6.mp e).elim (st.Jv w) λe=>(aaG.mp e).elim λx z=>z.2▸trivial) λz=>aq z λm o z=>?_
  rw [z.2.2,rH (dk.free m o z.2.1 ((qx m).mp z.1).2.2.2) (dk.ok _ (bo z.2.1))]
  exact dk.ok _ (bo z.2.1)
noncomputable def Pj (docs:List Doc) (F:List (Nat × Int)):Prop:=F.Nodup/\∀x∈F,∃D,docs[x.1]? =some D/\aM D.tab x.2=true/\D.bs x.2=false
theorem y8 {docs:List Doc} (v7:∀D∈docs,DocOk D) (n:Nat):∀{F:List (Nat × Int)},Pj docs F->(∀x∈F,x.1 < n)->F.length<=4*n:=by
 induction n with
 | zero=>exact λ{F} zz h=>match F,h with
  | [],_=>aaF _
  | x::_,h=>absurd (h x (.head _)) (Nat.not_lt_zero _)
 | succ n ih=>
  intro F c h
  have h1:=ih (F:=F.filter λx=>decide ¬decide (x.1=n)=true) ⟨c.1.filter _,λx hx=>c.2 x (abk.mp hx).1⟩ λx hx=>by
   have z:=abk.mp hx
   have:=h x z.1
   have w:=of_decide_eq_true z.2
   rw [decide_eq_true_iff] at w
   exact Nat.lt_of_le_of_ne (Nat.le_of_lt_succ this) w
  have h2:(F.filter λx=>decide (x.1=n)).length<=4:=by
   cases e:F.filter λx=>decide (x.1=n) with
   | nil=>exact abp _
   | cons y r=>
    rw [<-e]
    have m:∀x∈F.filter λx=>decide (x.1=n),x∈F/\x.1=n:=λx hx=>(abk.mp hx).imp id of_decide_eq_true
    have y1:=m y (e▸ .head _)
    refine (c.2 y y1.1).elim λD z=>?_
    have:=(v7 D (aaO z.1)).X4 ((F.filter λx=>decide (x.1=n)).map (·.2)) (List.pairwise_map.mpr ((c.1.filter _).imp_of_mem λ{a b} ha hb ne e=>ne (Prod.ext ((m a ha).2.trans (m b hb).2.symm) e))) λk hk=>(aaG.mp hk).elim λx w=>(c.2 x (m x w.1).1).elim λD' v=>by
     rw [(m x w.1).2,<-y1.2,z.1] at v
     rw [<-w.2,aay v.1];exact v.2
    rwa [aaB] at this
  have:=List.length_eq_countP_add_countP (λx:Nat × Int=>decide (x.1=n)) (l:=F)
  rw [List.countP_eq_length_filter,List.countP_eq_length_filter] at this
  exact zF (aaQ h1 (aaQ h2 (aaS this))) (by simp+arith)
theorem di.SY {docs:List Doc} {pl:Pl} {j:Nat} {aa:List (Int × Ob)} {E:List (Nat × Int)} (st:di docs pl j aa E):Pj docs E:=⟨st.nd,λx hx=>(abo hx).elim λk hk=>aq (st.ents k x.1 x.2 hk) λD o z=>⟨D,z.doc,by unfold aM;rw [z.src];rfl,z.bs⟩⟩
theorem Pj.lt {docs:List Doc} {F:List (Nat × Int)} (c:Pj docs F):∀x∈F,x.1 < docs.length:=λx hx=>(c.2 x hx).elim λzz z=>(aaZ.mp z.1).1
theorem di.room {docs:List Doc} {pl:Pl} {j i:Nat} {D:Doc} {aa:List (Int × Ob)} {E:List (Nat × Int)} (st:di docs pl j aa E) (v7:∀D∈docs,DocOk D) (oY:pl.length+4*docs.length<=60) (hD:docs[i]? =some D) {fr:List Int} (nd:fr.Nodup)
  (qx:∀n∈fr,ae n (bO pl E i)= .none/\aM D.tab n=true/\D.bs n=false):aa.length+fr.length < 64:=by
 have c:Pj docs (E++fr.map λn=>(i,n)):=⟨abw.mpr ⟨st.nd,nd.map _ λzz zz h e=>h (Prod.mk.inj e).2,λx hx y hy e=>(aaG.mp hy).elim λm z=>(abo hx).elim λk hk=>by
   have h0:=(qx m z.1).1
   rw [e,<-z.2] at hk
   unfold bO at h0
   replace h0:=(cc)▸h0
   cases q:ae m (fS i (cy pl))<;>replace h0:=(q)▸h0
   .exact nomatch (iI (q:=3+(pl.length:Int)) st.nd hk).symm.trans h0
   .cases h0⟩,λx hx=>(aa6.mp hx).elim (st.SY.2 x) λh=>(aaG.mp h).elim λm z=>z.2▸⟨D,hD,(qx m z.1).2⟩⟩
 have:=y8 v7 _ c c.lt
 rw [aaD,aaB] at this
 have:=st.len
 exact zF (aaQ oY (aaQ (by assumption) (aaS this))) (by simp+arith)
theorem tz {i:Nat} {ws:List (Nat × Int)}:(fS i ws).length<=ws.length:=by
 refine fY (p:=λws=>(fS i ws).length<=ws.length) (aaF _) (λl a ih=>?_) ws
 rw [f0,aaD]
 by_cases e:a.1=i
 .rw [if_pos e]
  unfold ie
  cases (ae a.2 (fS i l)).isSome with
  | true=>exact abx ih
  | false=>exact aaw (aaS aaD) (aa1 ih)
 .rw [if_neg e];exact abx ih
theorem Bp {i:Nat} {E:List (Nat × Int)}:∀{q:Int},(eA i E q).length<=E.length:=by
 induction E with
 | nil=>exact aaF _
 | cons x E ih=>
  intro q
  show List.length (if x.1=i then _ else _)<=_
  by_cases e:x.1=i
  .rw [if_pos e];exact aa1 ih
  .rw [if_neg e];exact abx ih
theorem di.tbl {docs:List Doc} {pl:Pl} {j i:Nat} {aa:List (Int × Ob)} {E:List (Nat × Int)} (st:di docs pl j aa E) (v7:∀D∈docs,DocOk D) (oY:pl.length+4*docs.length<=60):(bO pl E i).length < 900:=by
 have h2:= @tz i (cy pl)
 unfold bO
 rw [cy,aaB] at h2
 rw [aaD,cy]
 exact aaz (aaw (aaQ h2 (aaw (@Bp i E (3+(pl.length:Int))) (y8 v7 _ st.SY st.SY.lt))) oY) (by decide)
theorem Ce {m:Nat}:(cr 0 m).map (·.1)=(List.range (cr 0 m).length).map λ(i:Nat)=>(i:Int)+1:=by
 rw [eO,cr,aa5]
 exact abq λx zz=>by show (0:Int)+1+x=x+1;exact Int.add_comm 1 _
theorem di.init {docs:List Doc} {pl:Pl}:di docs pl 0 (cr 0 (2+pl.length)) [] where
 num:=Ce
 len:=eO
 nd:= .nil
 ents _ _ _ h:=nomatch h
 done _ _ _ _ h:=absurd h (Nat.not_lt_zero _)
 Jv w hw:=(aaG.mp hw).elim λx z=>z.2▸trivial
structure CI where
 c:Nat
 s:Nat
 t:Nat
 ct:Nat
 b:Nat
structure BV (P:Nat->Prop) (H:HP) (ms lo hi:Nat) (x:CI) (D:Doc):Prop where
 lc:x.c < H.n
 at_:H.g x.c=vc x.s ms x.ct x.b
 WB:lo<=x.ct
 JX:x.ct < x.b
 ls:x.s < hi
 lt:x.t < hi
 rs:RS P H x.s x.t D.tab D.tr
 bar:nK H x.b D.bs
theorem BV.mono {P P' S:Nat->Prop} {H H':HP} {ms lo hi:Nat} (f:ai S H H') (hp:cX S P P' H) (hS:∀a,S a->hi<=a) {x:CI} {D:Doc} (hb:¬S x.b) (r:BV P H ms lo hi x D):BV P' H' ms lo hi x D:=
 ⟨f.lt r.lc,f.fix r.lc r.at_ rfl,r.WB,r.JX,r.ls,r.lt,r.rs.mono f hp (λq=>absurd (hS _ q) (Nat.not_le.mpr r.ls)) (λq=>absurd (hS _ q) (Nat.not_le.mpr r.lt)),r.bar.mono f hb⟩
noncomputable def Pb (P:Nat->Prop) (H:HP) (hi:Nat) (v:AV) (D:Doc):Prop:=∃s t,v= .ref s/\(s < hi/\t < hi)/\RS P H s t D.tab D.tr
theorem rF {G:Nat->aj} (m:aQ G) {k:Nat} {H:HP} {Q:KV} (h:∀H' t r,ai aJ H H'->(H.n < t/\t < r/\r < H'.n)->H'.g H.n=iy t (.ref r)->H'.g t= .dict []->H'.g r= .dict []->Q (.ref H.n) H'):tV (G (k+1)) "Shelf" [] H Q:=by
 refine m.init (cN λH1 f1 n1 e1=>ad (f1.keep (aaC _) dq) ⟨?_⟩)
 have l1:H.n < H1.n:=n1▸aax (aaC _) (aba _)
 have l2:H.n+1 < H1.n:=n1▸aaC _
 refine cN λH2 f4 n2 e2=>?_
 refine ad (f4.keep l1 bp) ⟨⟨rfl,h _ (H.n+1) H1.n (((((ai.push (S:=aJ) (o:= .inst "Shelf" [])).tr f1).re (o:= .inst "Shelf" [("table",.ref (H.n+1))]) (aaF _)).tr f4).re (aaF _)) ⟨aaC _,l2,(show H2.n=H1.n+1 from n2)▸aaC _⟩ bp ((ey (aaN (aaC _))).trans (f4.keep l2 ((ey (aaN (aaC _))).trans e1))) ((ey (aaN l1)).trans e2)⟩⟩
structure Wf (P:Nat->Prop) (H:HP) (ms lo hi:Nat) (gy:List CI) (docs:List Doc):Prop where
 co:L2 (BV P H ms lo hi) gy docs
 pw:gy.Pairwise λx y=>x.b < y.ct
noncomputable def LY (x:CI):AV:= .ref x.c
section
variable {G:Nat->aj} {H H0 H':HP} {Q:KV} {k:Nat} {P P' S Z:Nat->Prop} {loc:Loc} {docs:List Doc} {gy:List CI} {ms lo hi:Nat}
structure Sc (P:Nat->Prop) (H:HP) (ms lo hi:Nat) (docs dd rest:List Doc) (gy:List CI) (vs acc:List AV) (H':HP):Prop where
 eq:docs=dd++rest
 rv:L2 (Pb P H hi) vs rest
 aD:ai aJ H H'
 acc:acc=gy.map LY
 co:L2 (BV (jg P H.n) H' ms lo hi) gy dd
 pw:gy.Pairwise λx y=>x.b < y.ct
 tb:∀x∈gy,H'.g x.ct= .dict []/\x.b < H'.n/\H.n<=x.ct
noncomputable def Ml (P:Nat->Prop) (H:HP) (Q:KV) (ms lo hi:Nat) (docs:List Doc):Prop:=∀H' cl gy,ai aJ H H'->(H.n<=cl/\cl < H'.n)->H'.g cl= .list (gy.map LY)->Wf (jg P H.n) H' ms lo hi gy docs->(∀x∈gy,H'.g x.ct= .dict []/\H.n<=x.ct)->Q (.ref cl) H'
theorem Bi (m:aQ G) {shl:Nat} {ss:List AV} (v7:∀D∈docs,DocOk D) (Cn:shl < H.n) (es:H.g shl= .list ss) (hs:L2 (Pb P H hi) ss docs) (hlen:docs.length < 1000) (OV:lo<=H.n) (l1:loc "made"= .ref ms) (h:Ml P H Q ms lo hi docs):
  eV (X.new "Collector" (.cons (.loc "shelf") (.o (.loc "made"))) (G (k+7))) (.nm "shelf") .plain (X.yes (G (k+7))) loc Q [.ref shl] H:=by
 refine dF (aH es) (k7 (λvs acc H'=>∃dd rest gy,Sc P H ms lo hi docs dd rest gy vs acc H') (λv vs acc H' C N I hC zz=>bj I λdd rest gy I=>?_) _ _ _ (cZ ([]) docs ([]) ⟨rfl,hs,.refl,rfl,.nil,.nil,λzz h=>(aaU h).elim⟩) λacc H' I=>bj I λdd rest gy I=>?_)
 .cases rest with
  | nil=>exact nomatch (I.rv)
  | cons D rest=>
  refine aq I.rv.inv.1 λs t z=>?_
  obtain rfl:=z.1
  have f:=I.aD
  have rs:RS (jg P H.n) H' s t D.tab D.tr:=z.2.2.mono f (λa ha h=>⟨id,h,ha⟩) id id
  have dk:=v7 D (I.eq▸aaT _ (.head _))
  refine ak (v:= .ref ms) l1 (DE m rs dk.tree dk.root λH2 ct b f2 h1 h3 h4 h5=>hC _ _ (bC (f.tr f2) Cn id ⟨aH es,rfl⟩) ?_ (cZ (dd++[D]) rest (gy++[⟨H'.n,s,t,ct,b⟩]) ⟨by rw [I.eq,aaW];rfl,I.rv.inv.2,f.tr f2,by rw [I.acc,aaL];rfl,?_,?_,λx hx=>?_⟩))
  .rw [I.acc,aaB,I.co.len]
   have:=hlen
   rw [I.eq,aaD] at this
   exact ii (aaz (aaM ..) this)
  .exact (I.co.imp λx D' r=>r.mono f2 aV (λzz q=>q.elim) id).snoc ⟨aaA h1.1 (aaA h1.2 h5.1),h3,aaw OV (aaw f.le (aaI h1.1)),h1.2,z.2.1.1,z.2.1.2,rs.mn f2,h5⟩
  .exact List.pairwise_append.mpr ⟨I.pw,abu _ _,λx hx y hy=>aaK.mp hy▸aaA (I.tb x hx).2.1 h1.1⟩
  .refine (aa6.mp hx).elim (λq=>?_) λq=>aaK.mp q▸⟨h4,h5.1,aaw f.le (aaI h1.1)⟩
   have w:=I.tb x q
   exact (I.co.mem q).elim λD' r=>⟨f2.keep (aaA r.2.JX w.2.1) w.1,f2.lt w.2.1,w.2.2⟩
 .have e:rest=[]:=by cases rest with
   | nil=>rfl
   | cons=>exact nomatch (I.rv)
  have eq:=I.eq
  rw [e,aaY] at eq
  refine cN λH2 f2 n2 e2=>h H2 _ gy (I.aD.tr f2) ⟨I.aD.le,n2▸aaC _⟩ (e2.trans (congrArg AO.list I.acc)) ⟨eq▸I.co.imp λx D' r=>r.mono f2 aV (λzz q=>q.elim) id,I.pw⟩ λx hx=>?_
  have w:=I.tb x hx
  exact (I.co.mem hx).elim λD' r=>⟨f2.keep (aaA r.2.JX w.2.1) w.1,w.2.2⟩
end
noncomputable def GX (P:Nat->Prop) (H:HP) (v:AV) (x:Nat × (Int × Di)):Prop:=∃p pb f,v= .tup [.int x.1,.ref p]/\KK P H p pb f x.2
theorem GX.mono {P P' S:Nat->Prop} {H H':HP} (f:ai S H H') (hp:cX S P P' H) {v:AV} {x:Nat × (Int × Di)} (r:GX P H v x):GX P' H' v x:=r.imp λzz r=>r.imp λzz r=>r.imp λzz r=>⟨r.1,r.2.mono f hp⟩
theorem L2.at {α β:Type} {r:α->β->Prop} {l:List α} {m:List β} (h:L2 r l m) {i:Nat} {a:α} {b:β} (e1:l[i]? =some a) (e2:m[i]? =some b):r a b:=(h.get e2).elim λx z=>aay (z.1.symm.trans e1)▸z.2
theorem yK {gy:List CI} (hp:gy.Pairwise (λx y=>x.b < y.ct)) (h:∀x∈gy,x.ct < x.b) {i j:Nat} {x y:CI} (hi:gy[i]? =some x) (hj:gy[j]? =some y):x.b≠y.ct/\(i≠j->x.ct≠y.ct):=by
 have ⟨h1,e1⟩:=aaZ.mp hi
 have ⟨h2,e2⟩:=aaZ.mp hj
 have hx:=h x (aaO hi)
 have hy:=h y (aaO hj)
 have pw:=λi j h1 h2 q=>List.pairwise_iff_getElem.mp hp i j h1 h2 q
 rcases Nat.lt_trichotomy i j with q | q | q
 .have:=pw i j h1 h2 q
  rw [e1,e2] at this
  exact ⟨aaJ this,λzz=>aaJ (aaA hx this)⟩
 .rw [q,hj] at hi
  obtain rfl:=aay hi
  exact ⟨aaN hy,λz=>absurd q z⟩
 .have:=pw j i h2 h1 q
  rw [e1,e2] at this
  exact ⟨aaN (aaA hy (aaA this hx)),λzz=>aaN (aaA hy this)⟩
structure AsC where
 P:Nat->Prop
 H:HP
 ms:Nat
 mt:Nat
 cl:Nat
 wE:Nat
 lo:Nat
 N0:Nat
 docs:List Doc
 gy:List CI
 ps:List AV
 pl:Pl
noncomputable def gZ (c:AsC):Nat->Prop:=λx=>x=c.mt\/∃ci∈c.gy,x=ci.ct
structure fw (c:AsC):Prop where
 Rw:c.cl < c.H.n
 M5:c.H.g c.cl= .list (c.gy.map LY)
 ci:Wf c.P c.H c.ms c.lo c.N0 c.gy c.docs
 W7:c.mt < c.lo
 xj:c.ms < c.mt
 hN:c.N0<=c.ms
 Ru:¬gZ c c.cl
 RG:¬gZ c c.wE
 Jb:c.mt < c.H.n
 Rd:c.wE < c.H.n
 KG:c.H.g c.wE= .list c.ps
 wT:L2 (GX c.P c.H) c.ps c.pl
 gx:c.pl.length<=60
 Dg:∀x∈c.pl,x.1 < c.docs.length
 hP:∀x,c.P x->x < c.N0
section
variable {c:AsC} {H H':HP}
theorem fw.Rk (ok:fw c):∀x∈c.gy,x.ct < x.b:=λx hx=>(ok.ci.co.mem hx).elim λD r=>r.2.JX
theorem fw.mc (ok:fw c):∀x∈c.gy,c.mt < x.ct:=λx hx=>(ok.ci.co.mem hx).elim λD r=>aax ok.W7 r.2.WB
theorem fw.Ai (ok:fw c):∀x∈c.gy,x.ct < c.H.n:=λx hx=>(ok.ci.co.mem hx).elim λD r=>aaA r.2.JX r.2.bar.1
theorem fw.Q3 (ok:fw c):∀a,gZ c a->c.N0<=a:=λa q=>q.elim (λq=>q▸aaw ok.hN (aaI ok.xj)) λq=>q.elim λy q=>q.2▸aaw (aaw ok.hN (aaI ok.xj)) (aaI (ok.mc y q.1))
theorem fw.P4 (ok:fw c):∀a,gZ c a->a < c.H.n:=λa q=>q.elim (λq=>q▸ok.Jb) λq=>q.elim λy q=>q.2▸ok.Ai y q.1
theorem fw.keep (ok:fw c) {H:HP}:cX (gZ c) c.P c.P H:=λa zz ha=>⟨λq=>Nat.not_le.mpr (ok.hP a ha) (ok.Q3 a q),ha⟩
theorem fw.bar (ok:fw c) {x:CI} (hx:x∈c.gy):¬gZ c x.b:=λq=>q.elim (λq=>aaN (aaA (ok.mc x hx) (ok.Rk x hx)) q) λq=>q.elim λy q=>(abo hx).elim λi hi=>(abo q.1).elim λj hj=>(yK ok.ci.pw ok.Rk hi hj).1 q.2
theorem fw.co (ok:fw c) (f:ai (gZ c) c.H H) {i:Nat} {x:CI} {D:Doc} (hx:c.gy[i]? =some x) (hD:c.docs[i]? =some D):BV c.P H c.ms c.lo c.N0 x D:=(ok.ci.co.at hx hD).mono f ok.keep ok.Q3 (ok.bar (aaO hx))
end
noncomputable def Ls (c:AsC) (H:HP) (T:Nat->List (Int × Int)):Prop:=∀i x,c.gy[i]? =some x->H.g x.ct= .dict (dt (T i))
noncomputable def Me (H:HP) (v:AV) (q:Int):Prop:=jJ H v (cH q)
noncomputable def cY (n:Nat):List Int:=(List.range n).map λ(i:Nat)=>(3:Int)+i
structure Sb (c:AsC) (dp rest:Pl) (vs acc:List AV) (H:HP):Prop where
 eq:c.pl=dp++rest
 rv:L2 (GX c.P c.H) vs rest
 aD:ai (gZ c) c.H H
 acc:L2 (Me H) acc (cY dp.length)
 ms:MS (bw c.H.n) H c.ms c.mt (cr 0 (2+dp.length))
 tb:Ls c H λi=>fS i (cy dp)
noncomputable def Oj (c:AsC) (Q:KV):Prop:=∀H' kl ks,ai (gZ c) c.H H'->(c.H.n<=kl/\kl < H'.n)->H'.g kl= .list ks->L2 (Me H') ks (cY c.pl.length)->MS (bw c.H.n) H' c.ms c.mt (cr 0 (2+c.pl.length))->Ls c H' (λi=>fS i (cy c.pl))->Q (.ref kl) H'
theorem gC {n:Nat}:(cY n).length=n:=by rw [cY,aaB,List.length_range]
theorem Bj {G:Nat->aj} {k:Nat} {loc:Loc} {Q:KV} (m:aQ G) {c:AsC} (ok:fw c) (r:MS (bw c.H.n) c.H c.ms c.mt (cr 0 2)) (T5:∀x∈c.gy,c.H.g x.ct= .dict []) (l0:loc "collectors"= .ref c.cl) (h:Oj c Q):
  eV (X.ay (.idx (.loc "collectors") (.loc "at")) "reserve" (.o (.loc "page")) (G (k+3))) (.tup ["at","page"]) .plain (X.yes (G (k+3))) loc Q [.ref c.wE] c.H:=by
 refine dF (aH ok.KG) (k7 (λvs acc H'=>∃dp rest,Sb c dp rest vs acc H') (λv vs acc H' C N I hC zz=>aq I λdp rest I=>?_) _ _ _ (bH ([]) c.pl ⟨rfl,ok.wT,.refl,.nil,r,λi x hx=>T5 x (aaO hx)⟩) λacc H' I=>aq I λdp rest I=>?_)
 .cases rest with
  | nil=>exact nomatch (I.rv)
  | cons w rest=>
  obtain ⟨i,n,d⟩:=w
  refine bj I.rv.inv.1 λp pb f z=>?_
  obtain rfl:=z.1
  have hi:i < c.docs.length:=ok.Dg (i,(n,d)) (I.eq▸aaT _ (.head _))
  have hD:c.docs[i]? =some c.docs[i]:=aaR hi
  refine (ok.ci.co.get hD).elim λx hx=>?_
  have hx:=hx.1
  have Gg:=aaO hx
  have co:=ok.co I.aD hx hD
  have pg:=z.2.mono I.aD ok.keep
  have dl:dp.length < c.pl.length:=by rw [I.eq,aaD];exact abl (Nat.succ_pos _)
  have UT:=aax dl ok.gx
  refine ak (v:= .ref c.cl) l0 (ad (I.aD.at ok.Rw ok.Ru ok.M5) (dF (v:=AV.ref x.c) (by rw [Int.toNat_natCast,abc,hx];rfl) (ad co.at_ (Bh m (show uf ⟨x.c,x.s,c.ms,x.ct,x.b,c.mt,bw c.H.n⟩ from ⟨λy hy=>aaN (aax ok.Jb hy),λy hy=>aaN (aax (ok.Ai x Gg) hy),aaJ ok.xj,aaJ (aaA ok.xj (ok.mc x Gg)),aaJ (ok.mc x Gg)⟩) ⟨co.lc,co.at_,I.aD.lt (ok.Ai x Gg),I.tb i x hx,aaz tz (by rw [cy,aaB];exact aaA UT (by decide)),I.ms,by rw [eO];exact aax (abv (abr UT 2)) (by decide)⟩ pg.lt pg.at_ pg.JT pg.Gn λH2 rr f2 h1 h2 h3 h4 h5=>?_))))
  have fL:=I.aD.tr (f2.weak λa zz q=>q.imp id λq=>⟨x,Gg,q⟩)
  have num:((cr 0 (2+dp.length)).length:Int)+1=3+(dp.length:Int):=by exact (eO)▸Sx
  rw [num] at h3 h4 h5
  refine hC _ _ (bC fL ok.Rd ok.RG ⟨aH ok.KG,rfl⟩) (by rw [I.acc.len,gC];exact aaA UT (by decide)) (bH (dp++[(i,(n,d))]) rest ⟨by rw [I.eq,aaW];rfl,I.rv.inv.2,fL,?_,?_,λi' y hy=>?_⟩)
  .rw [aaD,abe,cY,List.range_succ,aaL]
   exact (I.acc.imp λzz zz r=>jJ.mono f2 rfl r).snoc ⟨rr,rfl,h2,h3⟩
  .rw [aaD,abe,<-aa9,nV]
   rw [show (3:Int)+(dp.length:Int)=((0:Nat):Int)+1+(2+dp.length:Nat) from Ut] at h4
   exact h4
  .show _=AO.dict (dt (fS i' (cy (dp++[(i,(n,d))]))))
   rw [cy,aaL]
   show _=AO.dict (dt (fS i' (cy dp++[(i,n)])))
   rw [f0]
   by_cases e:i=i'
   .rw [if_pos e,<-e]
    rw [<-e,hx] at hy
    rw [<-aay hy,cy,aaB]
    exact h5
   .rw [if_neg e]
    have Ma:=aaO hy
    exact f2.at (I.aD.lt (ok.Ai y Ma)) (λq=>q.elim (aaN (ok.mc y Ma)) ((yK ok.ci.pw ok.Rk hy hx).2 (abm e))) (I.tb i' y hy)
 .have e:rest=[]:=by cases rest with
   | nil=>rfl
   | cons=>exact nomatch (I.rv)
  have eq:=I.eq
  rw [e,aaY] at eq
  refine cN λH2 f2 n2 e2=>h H2 _ acc (I.aD.tn f2) ⟨I.aD.le,n2▸aaC _⟩ e2 (eq▸I.acc.imp λzz zz r=>jJ.mono f2 rfl r) (eq▸I.ms.mono f2 aV id id) λi x hx=>?_
  exact (eq)▸f2.keep (I.aD.lt (ok.Ai x (aaO hx))) (I.tb i x hx)
theorem zx {q:Int} {o:Ob} {tab:List (Int × Ob)}:tab.length<=(bM q o tab).length:=by
 induction tab with
 | nil=>exact abp _
 | cons e r ih=>
  show _<=List.length (bif decide (e.1=q) then _ else _)
  cases decide (e.1=q) with
  | true=>exact aaF _
  | false=>exact aa1 ih
theorem Iz {tbl:List (Int × Int)} {tab:List (Int × Ob)} {l:List Int}:∀{M:List (Int × Ob)},M.length<=(vt tbl tab l M).length:=by
 induction l with
 | nil=>exact aaF _
 | cons n r ih=>
  refine λ{M}=>aaw (?_:_<=(sK tbl tab M n).length) ih
  unfold sK
  cases ae n tbl with
  | none=>exact aaF _
  | some q=>cases ah n tab with
   | none=>exact aaF _
   | some o=>exact zx
structure Kz extends AsC where
 N1:Nat
 kl:Nat
 pa:Nat
 ro:Nat
 ks:List AV
structure mL (c:Kz):Prop extends fw c.toAsC where
 v7:∀D∈c.docs,DocOk D
 oY:c.pl.length+4*c.docs.length<=60
 rd:∀x∈c.pl,eI x.2.2/\x.2.2.length < 60
 n1:c.N1<=c.H.n
 nm:c.mt < c.N1
 nc:∀x∈c.gy,x.ct < c.N1
 C9:c.kl < c.H.n
 NV:c.H.g c.kl= .list c.ks
 UK:¬gZ c.toAsC c.kl
 Op:L2 (Me c.H) c.ks (cY c.pl.length)
 Aj:c.pa < c.H.n
 Gj:c.H.g c.pa=cH 2
structure M3 (c:Kz) (j:Nat) (aa:List (Int × Ob)) (E:List (Nat × Int)) (loc:Loc) (H:HP):Prop where
 aD:ai (gZ c.toAsC) c.H H
 ms:MS (bw c.N1) H c.ms c.mt aa
 st:di c.docs c.pl j aa E
 tb:Ls c.toAsC H (bO c.pl E)
 l0:loc "collectors"= .ref c.cl
 l1:loc "places"= .ref c.wE
 l2:loc "kids"= .ref c.kl
 l3:loc "parent"= .ref c.pa
 l4:loc "made"= .ref c.ms
 l5:loc "root"= .ref c.ro
theorem pV {n j:Nat} (h:j < n):(cY n)[j]? =some (3+(j:Int)):=by rw [cY,abc,List.getElem?_range h];rfl
theorem mL.zone {c:Kz} (ok:mL c) {a:Nat} (h:bw c.N1 a):¬gZ c.toAsC a:=λq=>q.elim (λe=>aaP.mpr h (e▸ok.nm)) λq=>q.elim λx q=>aaP.mpr h (q.2▸ok.nc x q.1)
noncomputable def zI:SL:= .cons (.bM ["at","page"] (.idx (.loc "places") (.loc "spot"))) (.cons (.set "collector" (.idx (.loc "collectors") (.loc "at"))) (.cons (.set "fields" (.call "bare_page" (.o (.loc "page")))) (.cons (.expr (.ay (.loc "collector") "lay" (.o (.ay (.loc "collector") "take_needed" (.o (.loc "fields"))))))
 (.cons (.set "laid" (.call "renumbered" (.cons (.loc "fields") (.o (.fld (.loc "collector") "table"))))) (.cons (.b8 (.loc "laid") (.str "Parent") (.loc "parent")) (.o (.expr (.ay (.loc "made") "put" (.cons (.fld (.idx (.loc "kids") (.loc "spot")) "number") (.cons (.int 0) (.o (.loc "laid"))))))))))))
theorem yj {G:Nat->aj} {k:Nat} {loc:Loc} {H:HP} {C:KS} (m:aQ G) {c:Kz} (ok:mL c) {j:Nat} {aa:List (Int × Ob)} {E:List (Nat × Int)} (hj:j < c.pl.length) (I:M3 c j aa E loc H)
  (h:∀aa E loc' H',M3 c (j+1) aa E loc' H'->C .next loc' H'):zI (G (k+8)) (loc.upd "spot" (.int j)) H C:=by
 obtain ⟨⟨i,n,d⟩,hp⟩:∃w,c.pl[j]? =some w:=⟨c.pl[j],aaR hj⟩
 have QJ:=aaO hp
 have hi:=ok.Dg _ QJ
 have hD:c.docs[i]? =some c.docs[i]:=aaR hi
 generalize c.docs[i]=D at hD
 have dk:=ok.v7 D (aaO hD)
 have hd:eI d/\d.length < 60:=ok.rd _ QJ
 refine (ok.ci.co.get hD).elim λx hx=>(ok.wT.get hp).elim λv hv=>bj hv.2 λp pb f z=>?_
 have hx:=hx.1
 have Gg:=aaO hx
 have pg:KK c.P H p pb f (n,d):=z.2.mono I.aD ok.keep
 have Ai:=I.aD.lt (ok.Ai x Gg)
 have U1:=ok.mc x Gg
 have Vc:=aaz ok.hN ok.xj
 have Mh:uf ⟨x.c,x.s,c.ms,x.ct,x.b,c.mt,bw c.N1⟩:=⟨λy hy=>aaN (aax ok.nm hy),λy hy=>aaN (aax (ok.nc x Gg) hy),aaJ ok.xj,aaJ (aaA ok.xj U1),aaJ U1⟩
 have sub:∀a,mM c.mt x.ct a->gZ c.toAsC a:=λa q=>q.imp id λq=>⟨x,Gg,q⟩
 have zP:∀y,c.P y->¬mM c.mt x.ct y:=λy hy q=>(ok.keep (H:=H) y (I.aD.lt (aaA (ok.hP y hy) (aaA Vc ok.Jb))) hy).1 (sub _ q)
 have lo:∀{a},a < c.N0->¬mM c.mt x.ct a:=λha q=>q.elim (λe=>Nat.lt_asymm Vc (e▸ha)) λe=>Nat.lt_asymm (aaA Vc U1) (e▸ha)
 have P4:∀{a},H.n<=a->¬mM c.mt x.ct a:=λha q=>q.elim (λe=>aaP.mpr ha (e▸I.ms.lX)) λe=>aaP.mpr ha (e▸Ai)
 refine ak I.l1 (ad (I.aD.at ok.Rd ok.RG ok.KG) (dF (v:=v) hv.1 (z.1▸ak I.l0 (ad (I.aD.at ok.Rw ok.Ru ok.M5) (dF (v:=AV.ref x.c) (by rw [Int.toNat_natCast,abc,hx];rfl) (Mi m pg.lt pg.at_ pg.rf (aax hd.2 (by decide)) λH2 fa f2 qA rb=>?_))))))
 have Jy:=(ok.co I.aD hx hD).mono f2 aV (λzz q=>q.elim) id
 refine ad Jy.at_ (ad Jy.at_ (LE m (C:=⟨x.c,x.s,c.ms,x.ct,x.b,c.mt,bw c.N1⟩) ⟨Mh,Jy.rs,Jy.bar,zP,lo Jy.ls,lo Jy.lt,λq=>ok.bar Gg (sub _ q),Jy.lc,Jy.at_,f2.lt Ai,f2.keep Ai (I.tb i x hx),I.st.tbl ok.v7 ok.oY,(I.ms.mono f2 aV id id),dk.ok,dk.free,(λfr nd qx=>I.st.room ok.v7 ok.oY hD (fr:=fr) nd qx)⟩ rb ⟨aaz (j6 d) (aax (abv hd.2) (by decide)),tJ hd.1⟩ λH3 ra fr f3 h1 h2 h3 KP Vh nd qx=>?_))
 have EE:=(I.aD.tn f2).tr (f3.weak λa zz=>sub a)
 have O0:=ok.co EE hx hD
 have UE:=f3.lt (f2.lt Ai)
 have yR:(aa++cr aa.length fr.length).length=aa.length+fr.length:=by rw [aaD,eO]
 refine QA m ⟨O0.rs,dk.ok,O0.lc,O0.at_,UE,Vh,λy hy e=>zP y hy (.inl e),λe=>lo O0.ls (.inl e),λe=>lo O0.lt (.inl e),Mh.zm,λy hy=>aaw ok.n1 (aaw EE.le hy),Mh.d1,abm Mh.d3,KP⟩ h2 ((λha e=>P4 ha (.inl e)) (aaw f2.le h1)) h3 (λy hy=>?_) λH4 f4 NF=>?_
 .have g:=(qx y).mp hy
  obtain ⟨o,ho⟩:=aa7.mp (show (ah y D.tab).isSome=true from g.2.2.1)
  obtain ⟨q,hq⟩:=aa7.mp (jl.trans (decide_eq_true hy):(ae y (gc fr ((aa.length:Int)+1))).isSome=true)
  have b:=wH (Cd hq)
  refine (bH q o ⟨by rw [cc,g.2.1,hq];rfl,?_,ho⟩)
  rw [yR,Int.natCast_add]
  exact ⟨abd (Int.le_add_of_nonneg_left (aa0 _)) b.1,Int.lt_add_one_iff.mp (Int.add_right_comm .. ▸b.2)⟩
 have Eu:=EE.tr (f4.weak λa zz q=>Or.inl q)
 refine ad (ok.co Eu hx hD).at_ (tL m ((rb.mono f3 (show cX (mM c.mt x.ct) (bf c.P H.n) (λy=>y≠c.mt) H2 from λa zz q=>q.elim (λq=>⟨zP a q,λe=>zP a q (.inl e)⟩) λq=>⟨P4 q,λe=>P4 q (.inl e)⟩)).mono f4 (P':=λy=>y≠c.mt) λa zz q=>⟨q,q⟩) ⟨aaz (j6 d) (aax (abv hd.2) (by decide)),tJ hd.1⟩ (f4.lt UE) (f4.ne UE Vh (abm Mh.d3)) λH5 la f5 K4 rl=>ak I.l3 (rl.set (va:= .at (.ref 2)) ⟨_,rfl,(Eu.tn f5).lt ok.Aj,(Eu.tn f5).fix ok.Aj ok.Gj rfl⟩ (aaz (aaw AB (j6 d)) (aax (abv hd.2) (by decide))) λH6 f6 n6 YR=>?_))
 have Hq:ai aJ H4 H6:=f5.up f6 K4
 have Po:=Eu.tn Hq
 have Wh:=NF.mono Hq aV id id
 refine (ok.Op.get (pV hj)).elim λkv q=>?_
 refine Wh.ins.elim λXv e6=>ak I.l4 (ad e6 (ak I.l2 (ad (Po.at ok.C9 ok.UK ok.NV) (dF (v:=kv) q.1 ((q.2.mono Po rfl).elim λa q=>q.1▸ad q.2.2 (se (Z:=bw c.N1) m Mh.zm Mh.d1 Wh ⟨?_,?_⟩ (o:= .dict (dM _ d)) ⟨la,rfl,YR.fA _ λy zz hy=>aaw (aaw ok.n1 Eu.le) hy⟩ λH7 f7 zz XH=>?_))))))
 .exact abd (by decide) (Int.le_add_of_nonneg_right (aa0 j))
 .refine abd (?_:_<=(aa.length:Int)) (Int.ofNat_le.mpr (aaw (yR▸aaM ..) Iz))
  have:=I.st.len
  exact Sn hj this
 have W3:ai (atS c.mt) H3 H7:=(f4.tn Hq).tr f7
 refine h _ (E++fr.map λn=>(i,n)) _ H7 ⟨EE.tr (W3.weak λa zz q=>Or.inl q),XH,(I.st.step dk hp hD hd.1 hd.2 nd qx),λi' y hy=>?_,I.l0,I.l1,I.l2,I.l3,I.l4,I.l5⟩
 have Ma:=aaO hy
 refine W3.ne (EE.lt (ok.Ai y Ma)) ?_ (aaN (ok.mc y Ma))
 by_cases e:i'=i
 .rw [e] at hy ⊢
  obtain rfl:=aay (hx.symm.trans hy)
  rw [oV,show 3+(c.pl.length:Int)+E.length=(aa.length:Int)+1 by rw [I.st.len];exact Uw]
  exact Vh
 .rw [qJ (abm e)]
  have yn:=I.aD.lt (ok.Ai y Ma)
  exact f3.at (f2.lt yn) (λq=>q.elim (aaN (ok.mc y Ma)) ((yK ok.ci.pw ok.Rk hy hx).2 e)) (f2.keep yn (I.tb i' y hy))
theorem Dj {tg:Tg} {b:PS} {loc:Loc} {H:HP} {QS:KS} {n:Nat} (hn:n<=lim) (J:Nat->Loc->HP->Prop) (step:∀j,j < n->∀loc H (C:KS),J j loc H->(∀loc' H',J (j+1) loc' H'->C .next loc' H')->Te C QS->opt (gj tg (.int j) loc) (MI b H C))
  (h0:J 0 loc H) (hQ:∀loc H,J n loc H->QS .next loc H):w4 tg .aE b loc QS [.int n] H:=by
 have go:∀k j loc H,j+k=n->J j loc H->k9 b tg (ck (.Gs n) (aN 0 n) 0) ((List.range' j k).map λ(i:Nat)=>AV.int (0+(i:Int))) loc H QS:=by
  intro k
  induction k with
  | zero=>exact λj loc H e h=>hQ loc H (e▸h)
  | succ k ih=>
   refine λj loc H e h=>?_
   rw [abD,aa4,Int.zero_add]
   exact step j (e▸abl (Nat.succ_pos k)) loc H _ h (λloc' H' h'=>⟨⟨rfl,rfl⟩,ih (j+1) loc' H' (by rw [<-e,aa9,abg 1]) h'⟩) λzz zz zz q=>q
 refine KO (Nat.ble_eq.mpr hn) (dF (v:=aN 0 n) rfl ?_)
 have:=go n 0 loc H (abE n) h0
 rw [<-List.range_eq_range'] at this
 exact (show aN 0 n=(List.range n).map λ(i:Nat)=>AV.int (0+(i:Int)) by unfold aN;rw [Int.sub_zero];rfl)▸this
theorem gV {P P':Nat->Prop} {H:HP} {Q:KV} {ks:List String} {vv:List AV} {d:Di} (l:L2 (RE P H) ((ks.map .str).zip vv) d) (nd:(d.map (·.1)).Nodup) (z:P' H.n) (hz:∀a,a < H.n->P a->P' a) (h:∀H',ai aJ H H'->H'.n=H.n+1->RD P' H' H.n d->Q (.ref H.n) H'):CS ks Q vv H:=by
 unfold CS
 exact ((show cT ((ks.map .str).zip vv)=(ks.map .str).zip vv from lC (es:=[]) (zf l nd))).symm▸cN λH' f n e'=>h H' f n (.fresh (n▸aaC _) z e' (l.imp λzz zz r=>r.mono f λa la ha=>⟨id,hz a la ha⟩) nd)
noncomputable def kn (n:Nat):Di:=[("Type",.at (.name "Pages")),("Kids",.arr ((cY n).map At.ref)),("Count",.at (.int n))]
noncomputable def sR:Di:=[("Type",.at (.name "Catalog")),("Pages",.at (.ref 2))]
structure ft (docs:List Doc) (pl:Pl) (aa:List (Int × Ob)) (E:List (Nat × Int)):Prop extends di docs pl pl.length aa E where
 lt:aa.length < 64
 root:ah 1 aa=some (.dict sR)
 node:ah 2 aa=some (.dict (kn pl.length))
theorem Iw {n:Nat} (h:n<=60):de (.dict (kn n)):=⟨(by decide:3 < 64),λx hx=>(aaH.mp hx).elim (λe=>e▸⟨nofun,trivial⟩) λhx=>(aaH.mp hx).elim (λe=>e▸⟨nofun,by show List.length _ < 1000;rw [aaB,gC];exact aaz h (by decide)⟩) λhx=>aaK.mp hx▸⟨nofun,trivial⟩⟩
theorem Li:de (.dict sR):=⟨by decide,λx hx=>(aaH.mp hx).elim (λe=>e▸⟨nofun,trivial⟩) λhx=>aaK.mp hx▸⟨nofun,trivial⟩⟩
theorem Ic {q:Int} {o:Ob} {tab:List (Int × Ob)} (num:tab.map (·.1)=(List.range tab.length).map λ(i:Nat)=>(i:Int)+1) (h:1<=q/\q<=tab.length):(bM q o tab).length=tab.length:=aaB (as:=tab) (·.1)▸eT (o:=o) ((bD num).mpr h)▸(aaB _).symm
theorem di.put {docs:List Doc} {pl:Pl} {j:Nat} {aa:List (Int × Ob)} {E:List (Nat × Int)} (st:di docs pl j aa E) {q:Int} {o:Ob} (h1:1<=q) (h2:q < 3) (ho:de o):di docs pl j (bM q o aa) E:=by
 have hq:1<=q/\q<=aa.length:=⟨h1,by have:=st.len;exact abd (Int.le_of_lt_add_one (b:=2) h2) (wZ (a:=2) (aaw (aaM 2 _) (aaw (aaM _ _) (aaS this.symm))))⟩
 have lk:∀k:Nat,ah (3+(k:Int)) (bM q o aa)=ah (3+(k:Int)) aa:=λk=>by rw [cG,if_neg (Int.ne_of_lt (Int.lt_of_lt_of_le h2 (Int.le_add_of_nonneg_right (aa0 _))))]
 have len:=Ic (o:=o) st.num hq
 refine ⟨(eT ((bD st.num).mpr hq)).trans (len▸st.num),len.trans st.len,st.nd,λk i n e=>(st.ents k i n e).imp λD z=>z.imp λo' z=>⟨z.doc,z.src,z.bs,?_,z.why⟩,λj' i n d hj hp=>(st.done j' i n d hj hp).imp_left (lk _).trans,λw hw=>(oC hw).elim (λe=>e▸ho) (st.Jv w)⟩
 have:=lk (pl.length+k)
 rw [Int.natCast_add,<-Int.add_assoc] at this
 exact this.trans z.at_
theorem di.fin {docs:List Doc} {pl:Pl} {aa:List (Int × Ob)} {E:List (Nat × Int)} (st:di docs pl pl.length aa E) (hl:aa.length < 64) (gx:pl.length<=60):ft docs pl (bM 1 (.dict sR) (bM 2 (.dict (kn pl.length)) aa)) E:=by
 have s1:=(st.put (q:=2) (by decide) (by decide) (Iw gx)).put (q:=1) (by decide) (by decide) Li
 exact ⟨s1,by rw [s1.len,<-st.len];exact hl,by rw [cG,if_pos rfl],by rw [cG,if_neg (by decide),cG,if_pos rfl]⟩
noncomputable def AsC.on (c:AsC) (H:HP):AsC:=⟨c.P,H,c.ms,c.mt,c.cl,c.wE,c.lo,c.N0,c.docs,c.gy,c.ps,c.pl⟩
theorem fw.on {c:AsC} (ok:fw c) {H:HP} (f:ai (gZ c) c.H H):fw (c.on H):=
 ⟨f.lt ok.Rw,f.at ok.Rw ok.Ru ok.M5,⟨(ok.ci.co.flip.wm.imp λD x r=>r.1.mono f ok.keep ok.Q3 (ok.bar r.2)).flip,ok.ci.pw⟩,ok.W7,ok.xj,ok.hN,ok.Ru,ok.RG,f.lt ok.Jb,f.lt ok.Rd,f.at ok.Rd ok.RG ok.KG,ok.wT.imp λzz zz r=>r.mono f ok.keep,ok.gx,ok.Dg,ok.hP⟩
theorem uI {G:Nat->aj} {k:Nat} {loc:Loc} {QS:KS} (m:aQ G) {c:Kz} (ok:mL c) {aa:List (Int × Ob)} {E:List (Nat × Int)} (I:M3 c 0 aa E loc c.H)
  (h:∀aa E loc' H',M3 c c.pl.length aa E loc' H'->QS .next loc' H'):S.bW (.nm "spot") .aE (XL.o (.prim "len" (.o (.loc "places")))) zI (G (k+8)) loc c.H QS:=by
 refine ak I.l1 (ad ok.KG ?_)
 refine (?_:w4 (.nm "spot") .aE (zI (G (k+8))) loc QS [.int c.ps.length] c.H)
 exact (ok.wT.len)▸Dj (aaw ok.gx (by decide)) (λj loc H=>∃aa E,M3 c j aa E loc H) (λj hj loc' H' C J hC zz=>aq J λaa E J=>yj m ok hj J λaa E IF H2 I2=>hC IF H2 (bH aa E I2)) (bH aa E I) λloc' H' J=>aq J λaa E J=>h aa E loc' H' J
noncomputable def TE (P:Nat->Prop) (H:HP) (v:AV) (D:Doc):Prop:=∃s t,v= .ref s/\RS P H s t D.tab D.tr
structure Sm (P:Nat->Prop) (H:HP) (shl wE:Nat) (docs:List Doc) (ss ps:List AV) (pl:Pl):Prop where
 v7:∀D∈docs,DocOk D
 Cn:shl < H.n
 es:H.g shl= .list ss
 hs:L2 (TE P H) ss docs
 gx:wE < H.n
 KG:H.g wE= .list ps
 wT:L2 (GX P H) ps pl
 oY:pl.length+4*docs.length<=60
 rd:∀x∈pl,x.1 < docs.length/\eI x.2.2/\x.2.2.length < 60
noncomputable def Kv (docs:List Doc) (pl:Pl) (H:HP) (Q:KV):Prop:=∀H' ms mt aa E,ai aJ H H'->H.n<=ms->RS (bw H.n) H' ms mt aa [("Root",.at (.ref 1))]->ft docs pl aa E->Q (.ref ms) H'
noncomputable def wQ:S:= .expr (.ay (.loc "made") "put" (.cons (.fld (.loc "parent") "number") (.cons (.int 0) (.o (.dict ["Type","Kids","Count"] (.cons (.new "Name" (.o (.str "Pages"))) (.cons (.prim "list" (.o (.loc "kids"))) (.o (.prim "len" (.o (.loc "kids")))))))))))
noncomputable def wg:S:= .expr (.ay (.loc "made") "put" (.cons (.fld (.loc "root") "number") (.cons (.int 0) (.o (.dict ["Type","Pages"] (.cons (.new "Name" (.o (.str "Catalog"))) (.o (.loc "parent"))))))))
noncomputable def Dd:S:= .dI (.loc "made") "trailer" (.dict ["Root"] (.o (.loc "root")))
section
variable {G:Nat->aj} {H:HP} {Q:KV} {QS:KS} {k:Nat} {P:Nat->Prop} {c:Kz} {loc:Loc} {aa:List (Int × Ob)}
structure EY (c:Kz) (aa:List (Int × Ob)) (loc:Loc) (H:HP):Prop where
 aD:ai (gZ c.toAsC) c.H H
 ms:MS (bw c.N1) H c.ms c.mt aa
 l2:loc "kids"= .ref c.kl
 l3:loc "parent"= .ref c.pa
 l4:loc "made"= .ref c.ms
 l5:loc "root"= .ref c.ro
theorem mL.zm (ok:mL c):∀x,bw c.N1 x->x≠c.mt:=λzz hy=>aaN (aax ok.nm hy)
theorem mL.le (ok:mL c) (f:ai (gZ c.toAsC) c.H H):bw c.N1 H.n:=aaw ok.n1 f.le
theorem GE (m:aQ G) (ok:mL c) (I:EY c aa loc H) (hl:2<=aa.length) (h:∀H',EY c (bM 2 (.dict (kn c.pl.length)) aa) loc H'->QS .next loc H'):wQ (G (k+2)) loc H QS:=by
 refine I.ms.ins.elim λtr e=>ak I.l4 (ad e (ak I.l3 (ad (I.aD.fix ok.Aj ok.Gj rfl) (fX m λH1 f1 n1 e1=>ak I.l2 (ad ((I.aD.tn f1).at ok.C9 ok.UK ok.NV) (cN λH2 f2 n2 e2=>ak I.l2 (ad (((I.aD.tn f1).tn f2).at ok.C9 ok.UK ok.NV) ?_)))))))
 have f:=(I.aD.tn f1).tn f2
 have kl:=ok.Op.len
 rw [gC] at kl
 have l1:H.n < H1.n:=n1▸aaC _
 have l2:H1.n < H2.n:=n2▸aaC _
 refine gV (P':=bw c.N1) (d:=kn c.pl.length) (P:=bw c.N1) (.cons ⟨rfl,H.n,rfl,aaA l1 l2,f2.keep l1 e1⟩ (.cons ⟨rfl,H1.n,c.ks,rfl,⟨l2,ok.le (I.aD.tn f1)⟩,e2,L2.xq (r:=RA H2) (ok.Op.imp λzz zz r=>jJ.mono f rfl r)⟩ (.cons ⟨rfl,congrArg (λ(n:Nat)=>AV.int n) kl⟩ .nil))) (by decide:["Type","Kids","Count"].Nodup) (ok.le f) (λzz zz h=>h) λH3 f3 n3 r3=>?_
 have f3:=(f1.tr f2).tr f3
 exact se m ok.zm (aaJ ok.xj) (I.ms.mono f3 aV id id) ⟨by decide,Int.ofNat_le.mpr hl⟩ (o:= .dict (kn c.pl.length)) ⟨_,rfl,r3⟩ λH4 f4 zz NF=>h H4 ⟨(I.aD.tn f3).tr (f4.weak λzz zz q=>Or.inl q),NF,I.l2,I.l3,I.l4,I.l5⟩
theorem Hz (m:aQ G) (ok:mL c) (hr:jJ c.H (.ref c.ro) (cH 1)) (I:EY c aa loc H) (hl:2<=aa.length) (h:∀H',EY c (bM 1 (.dict sR) aa) loc H'->QS .next loc H'):wg (G (k+2)) loc H QS:=by
 refine (hr.mono I.aD rfl).elim λro q=>I.ms.ins.elim λtr e=>ak I.l4 (ad e (ak I.l5 (q.1▸ad q.2.2 (fX m λH1 f1 n1 e1=>ak I.l3 ?_))))
 have f:=I.aD.tn f1
 refine gV (P':=bw c.N1) (d:=sR) (P:=bw c.N1) (.cons ⟨rfl,H.n,rfl,n1▸aaC _,e1⟩ (.cons ⟨rfl,c.pa,rfl,f.lt ok.Aj,f.fix ok.Aj ok.Gj rfl⟩ .nil)) (by decide) (ok.le f) (λzz zz h=>h) λH3 f3 n3 r3=>?_
 have f3:=f1.tr f3
 exact se m ok.zm (aaJ ok.xj) (I.ms.mono f3 aV id id) ⟨by decide,Int.ofNat_le.mpr (Nat.le_of_succ_le hl)⟩ (o:= .dict sR) ⟨_,rfl,r3⟩ λH4 f4 zz NF=>h H4 ⟨(I.aD.tn f3).tr (f4.weak λzz zz q=>Or.inl q),NF,I.l2,I.l3,I.l4,I.l5⟩
theorem Nh (ok:mL c) (hr:jJ c.H (.ref c.ro) (cH 1)) (I:EY c aa loc H) (hZ:c.ms < c.N1) (h:∀H' H2,ai (gZ c.toAsC) c.H H'->ai (atS c.ms) H' H2->RS (bw c.N1) H2 c.ms c.mt aa [("Root",.at (.ref 1))]->QS .next loc H2):Dd (G k) loc H QS:=by
 refine ak I.l5 (gV (P':=bw c.N1) (d:=[("Root",.at (.ref 1))]) (P:=bw c.N1) (.cons ⟨rfl,hr.mono I.aD rfl⟩ .nil) (by decide) (ok.le I.aD) (λzz zz h=>h) λH1 f1 n1 r1=>?_)
 have K0:=I.ms.mono f1 (P':=bw c.N1) aV id id
 refine ak I.l4 (K0.ins.elim λtr e=>ad e (ng e λH2 f2 n2 e2=>?_))
 have kp:cX (atS c.ms) (bw c.N1) (bw c.N1) H1:=λa zz z=>⟨λq=>aaP.mpr z ((show a=c.ms from q)▸hZ),z⟩
 exact h H1 H2 (I.aD.tn f1) f2 ⟨n2▸K0.lt,n2▸K0.lX,⟨_,e2,r1.mono f2 kp⟩,K0.tb.imp λes z=>⟨f2.ne K0.lX z.1 (aaN ok.xj),z.2.imp λzz zz r=>r.mono f2 kp⟩,K0.num,K0.len⟩
noncomputable def Mr:SL:= .cons (.bW (.nm "spot") .aE (.o (.prim "len" (.o (.loc "places")))) zI) (.cons wQ (.cons wg (.cons Dd (.o (.ret (.loc "made"))))))
theorem HX (m:aQ G) (ok:mL c) (hr:jJ c.H (.ref c.ro) (cH 1)) (hZ:c.ms < c.N1) (I:M3 c 0 aa [] loc c.H)
  (h:∀H' H2 aa E,ai (gZ c.toAsC) c.H H'->ai (atS c.ms) H' H2->RS (bw c.N1) H2 c.ms c.mt aa [("Root",.at (.ref 1))]->ft c.docs c.pl aa E->Q (.ref c.ms) H2):Mr (G (k+8)) loc c.H (eH Q):=by
 refine uI m ok I λmt E YA H6 I6=>?_
 have l2:2<=mt.length:=I6.st.len▸aaw (aaM 2 c.pl.length) (aaM _ _)
 refine GE m ok ⟨I6.aD,I6.ms,I6.l2,I6.l3,I6.l4,I6.l5⟩ l2 λH7 I7=>Hz m ok hr I7 (aaw l2 zx) λH8 I8=>Nh ok hr I8 hZ λH9 Xo f1 f2 rs=>ak I8.l4 ?_
 exact h H9 Xo _ E f1 f2 rs (I6.st.fin I6.ms.len ok.gx)
theorem ma (m:aQ G) {shl wE:Nat} {docs:List Doc} {ss ps:List AV} {pl:Pl} (B:Sm P H shl wE docs ss ps pl) (h:Kv docs pl H Q):G (k+9) "assembled" [.ref shl,.ref wE] H Q:=by
 refine m.run 39 rfl rfl rfl (rF m λH1 mt r f1 h1 g1 g2 zz=>ad g1 ?_)
 refine sI m (λzz q=>q.elim) (aaJ h1.1) (show MS aJ H1 H.n mt [] from ⟨aaA h1.1 (aaA h1.2.1 h1.2.2),aaA h1.2.1 h1.2.2,⟨_,g1⟩,⟨[],g2,.nil⟩,rfl,by decide⟩) (by decide) λH2 ro f2 zz h2 e2 Xl=>Xl.ins.elim λr2 g2=>ad g2 (sI m (λzz q=>q.elim) (aaJ h1.1) Xl (by decide) λH3 pa f3 zz h3 e3 KP=>?_)
 have JM:=(f1.up f2 (aaI h1.1)).up f3 (aaI h1.1)
 refine Bi m B.v7 (JM.lt B.Cn) (JM.keep B.Cn B.es) (P:=jg P H.n) (hi:=H.n) (lo:=H3.n) (ms:=H.n) (B.hs.imp λv D r=>r.imp λs r=>r.imp λt r=>⟨r.1,⟨r.2.lt,r.2.lX⟩,r.2.mono JM (λa ha h=>⟨id,h,ha⟩) id id⟩) (aaz (aaw (Nat.le_mul_of_pos_left _ (by decide)) (aaw (abn ..) B.oY)) (by decide)) (aaF _) rfl λH4 cl gy f4 m7 M5 ci Ur=>?_
 have Ah:=JM.tr f4
 have n0:H.n < H3.n:=KP.lt
 have Jb:mt < H3.n:=KP.lX
 have c2:∀x∈gy,cl≠x.ct:=λx hx e=>nomatch (M5.symm.trans (e▸(Ur x hx).1):AO.list _=AO.dict _)
 have ok:fw ⟨jg (jg P H.n) H3.n,H4,H.n,mt,cl,wE,H3.n,H.n,docs,gy,ps,pl⟩:=⟨m7.2,M5,ci,Jb,h1.1,aaF _,λq=>q.elim (aaN (aax Jb m7.1)) λq=>q.elim λx q=>c2 x q.1 q.2,λq=>q.elim (aaJ (aaA B.gx h1.1)) λq=>q.elim λx q=>(λx hx=>aaJ (aax (aaA B.gx n0) (Ur x hx).2)) x q.1 q.2,f4.lt Jb,Ah.lt B.gx,Ah.keep B.gx B.KG,B.wT.imp λv x r=>r.mono Ah λa ha z=>⟨id,⟨z,ha⟩,aaA ha n0⟩,aaw (aaM ..) B.oY,λx hx=>(B.rd x hx).1,λa z=>z.1.2⟩
 refine Bj m ok (KP.mono f4 (λzz zz q=>q.elim) id id) (λx hx=>(Ur x hx).1) rfl λH5 kl ks f5 Ux NV Op Yv Zx=>?_
 have RC:=f4.no.tr f5
 refine HX (c:=⟨AsC.on ⟨jg (jg P H.n) H3.n,H4,H.n,mt,cl,wE,H3.n,H.n,docs,gy,ps,pl⟩ H5,H4.n,kl,pa,ro,ks⟩) m ⟨ok.on f5,B.v7,B.oY,λx hx=>(B.rd x hx).2,f5.le,f4.lt Jb,ok.Ai,Ux.2,NV,(λha q=>aaP.mpr ha (ok.P4 _ q)) Ux.1,Op,RC.lt h3,RC.fix h3 e3 rfl⟩ ⟨ro,rfl,RC.lt (f3.lt h2),RC.fix (f3.lt h2) (f3.fix h2 e2 rfl) rfl⟩ (f4.lt n0)
  ⟨.refl,Yv,.init,λi x hx=>(Zx i x hx).trans (congrArg (λl=>AO.dict (dt l)) (aaY _).symm),rfl,rfl,rfl,rfl,rfl,rfl⟩ λH6 H7 aa E f6 f7 rs ao=>?_
 refine h H7 H.n mt aa E ((Ah.trans (f5.tr f6) λa ha q=>Nat.not_le.mpr ha (ok.Q3 a q)).up f7 (aaF _)) (aaF _) ⟨rs.lt,rs.lX,rs.ins.imp λzz z=>⟨z.1,z.2.fA _ ?_⟩,rs.tb.imp λzz z=>⟨z.1,z.2.imp λzz zz r=>r.mono (.refl:ai aJ H7 H7) ?_⟩,rs.num,rs.len⟩ ao
 .exact λx zz z=>aaw Ah.le z
 .exact λx zz z=>⟨id,aaw Ah.le z⟩
end
noncomputable def gU (i:Nat) (D:Doc):Pl:=(ar D.sp).map λp=>(i,p)
noncomputable def bY:Nat->List Doc->Pl
 | _,[]=>[]
 | i,D::r=>gU i D++bY (i+1) r
noncomputable def qI (docs:List Doc):Pl:=bY 0 docs
theorem pN {a b:List Doc}:∀{i:Nat},bY i (a++b)=bY i a++bY (i+a.length) b:=by
 induction a with
 | nil=>exact rfl
 | cons D r ih=>
  intro i
  show gU i D++bY (i+1) (r++b)=(gU i D++bY (i+1) r)++bY (i+(r.length+1)) b
  rw [ih,aaW,aa9,abg 1]
theorem j4 {x:Nat × (Int × Di)} {docs:List Doc}:∀{i:Nat},x∈bY i docs->∃j D,x.1=i+j/\docs[j]? =some D/\x.2∈ar D.sp:=by
 induction docs with
 | nil=>exact λh=>(aaU h).elim
 | cons D r ih=>
  refine λ{i} h=>(aa6.mp h).elim (λh=>(aaG.mp h).elim λp z=>(bH 0 D ⟨z.2▸rfl,rfl,z.2▸z.1⟩)) λh=>(ih h).elim λj z=>⟨j+1,z.imp λD' z=>⟨z.1.trans (by rw [aa9,abg 1]),z.2⟩⟩
theorem fH {docs:List Doc} {j:Nat} {D:Doc} (h:docs[j]? =some D):bY 0 (docs.take (j+1))=bY 0 (docs.take j)++gU j D:=by
 rw [jp h,pN,List.length_take,Nat.min_eq_left (aaI (aaZ.mp h).1),abE]
 exact congrArg _ (aaY _)
theorem qQ {docs:List Doc} {j:Nat}:(bY 0 (docs.take j)).length<=(qI docs).length:=by
 have:qI docs=bY 0 (docs.take j++docs.drop j):=congrArg (bY 0) (List.take_append_drop ..).symm
 rw [this,pN,aaD]
 exact aaM ..
theorem Ip {β:Type} {r:AV->β->Prop} {body:PS} {QS:KS} {tg:Tg} {src:HP->Prop} (J:List β->Loc->HP->Prop) {all:List β} (hs:∀{d loc H},J d loc H->src H)
  (step:∀v w d rest,all=d++w::rest->r v w->∀loc H (C:KS),J d loc H->(∀loc' H',J (d++[w]) loc' H'->C .next loc' H')->Te C QS->opt (gj tg v loc) (MI body H C)) {vs:List AV} {ws:List β} (l:L2 r vs ws):
  ∀{d:List β} {loc:Loc} {H:HP},all=d++ws->J d loc H->(∀loc' H',J all loc' H'->QS .next loc' H')->k9 body tg src vs loc H QS:=by
 induction l with
 | nil=>exact λe j hQ=>hQ _ _ ((e.trans (aaY _))▸j)
 | cons rv _ ih=>exact λe j hQ=>step _ _ _ _ e rv _ _ _ j (λloc' H' j'=>⟨hs j',ih (e.trans (aaW _ [_] _).symm) j' hQ⟩) λzz zz zz q=>q
theorem Bt {α:Type} {l:List α}:l.filter (λzz=>false)=[]:=by induction l with
 | nil=>rfl
 | cons _ _ ih=>exact ih
noncomputable def zX (D:Doc):Prop:=∀p∈ar D.sp,eI p.2/\p.2.length < 60
section
variable {G:Nat->aj} {H H':HP} {Q:KV} {QS:KS} {k:Nat} {P:Nat->Prop} {loc:Loc}
theorem dV.mn {v:AV} {x:Int × Di} (f:ai aJ H H') (r:dV P H v x):dV P H' v x:=dV.mono f aV r
noncomputable def vC (P:Nat->Prop) (n:Nat):Nat->Prop:=λx=>jg P n x\/n < x
theorem pM {n:Nat} {H:HP}:cX (atS n) (vC P n) (vC P n) H:=λx zz h=>⟨h.elim (λh=>aaJ h.2) λh=>aaN h,h⟩
structure Wn (P:Nat->Prop) (n shl:Nat) (H:HP) (pl:Pl) (loc:Loc) (H':HP):Prop where
 aD:ai aJ H H'
 lt:n < H'.n
 ex:∃ps,H'.g n= .list ps/\L2 (GX (vC P n) H') ps pl
 l0:loc "shelves"= .ref shl
 l1:loc "places"= .ref n
theorem C2 (m:aQ G) {shl:Nat} {docs:List Doc} {ss:List AV} (v7:∀D∈docs,DocOk D) (Cn:shl < H.n) (es:H.g shl= .list ss) (hs:L2 (TE P H) ss docs) (oY:(qI docs).length+4*docs.length<=60) (Ov:∀D∈docs,zX D)
  (h:Kv docs (qI docs) H Q):G (k+10) "merged" [.ref shl] H Q:=by
 refine m.run 40 rfl rfl rfl (cN λH1 f1 n1 e1=>ad (f1.keep Cn es) ?_)
 refine (congrArg (λ(n:Nat)=>w4 (.nm "at") .aE _ _ _ [.int n] H1) hs.len).mpr ?_
 refine Dj (aaw (aaI (aax (aaz ((Nat.le_of_mul_le_mul_left (c:=4) (b:=15) (aaw (abn _ _) oY) (by decide)):docs.length<=(60:Nat) / 4) (by decide)) (aaF 60))) (by decide)) (λj=>Wn P H.n shl H (bY 0 (docs.take j))) (λj hj loc' H' C I hC zz=>?_) ⟨f1,(n1▸aaC _),⟨[],e1,.nil⟩,rfl,rfl⟩ λloc' H' I=>?_
 .have hD:docs[j]? =some docs[j]:=aaR hj
  generalize docs[j]=D at hD
  have dk:=v7 D (aaO hD)
  have Pr:=qQ (docs:=docs) (j:=j+1)
  rw [fH hD,aaD] at Pr
  refine (hs.get hD).elim λv q=>aq q.2 λs t z=>ak I.l0 (ad (I.aD.keep Cn es) (dF (v:=v) q.1 (z.1▸kI m (z.2.mono I.aD (P':=jg P H.n) (λa ha h=>⟨id,h,ha⟩) id id) dk.tree dk.ok λH2 a vs f2 h1 h2 h3 h4=>dF (aH h3) ?_)))
  refine Ip (d:=[]) (all:=ar D.sp) (λd G9 H3=>(ai (atS H.n) H2 H3/\G9 "at"= .int j)/\Wn P H.n shl H (bY 0 (docs.take j)++d.map λp=>(j,p)) G9 H3) (λJ=>bC J.1.1 h2 (aaN (aax I.lt h1)) ⟨aH h3,rfl⟩) (λv w d rest e rv G9 H3 C3 J YN zz=>?_) (show L2 (dV (vC P H.n) H2) vs (ar D.sp) from h4.imp λzz zz r=>dV.mono (.refl:ai aJ H2 H2) (λx zz h=>⟨id,h.imp id λh=>aax I.lt h⟩) r) rfl ⟨⟨.refl,rfl⟩,(I.aD.tr f2),f2.lt I.lt,I.ex.imp λps e=>⟨f2.keep I.lt e.1,?_⟩,I.l0,I.l1⟩ λG9 H3 J=>hC _ _ ((fH hD).symm▸J.2)
  .have I:=J.2
   have mK:=J.1.1
   refine rv.elim λpa z=>I.ex.elim λps ep=>aq z λpb fa z=>z.1▸ak (v:= .ref H.n) I.l1 (ad ep.1 (ak (v:= .int j) J.1.2 (ad ep.1 ⟨?_,ng ep.1 λH4 f4 n4 e4=>?_⟩)))
   .have z3:=congrArg List.length e
    rw [aaD,aa2] at z3
    rw [ep.2.len,aaD,aaB]
    exact aaz ((zF (aaQ (aaQ oY Pr) (aaQ (aaS z3.symm) (aaS (show (gU j D).length=(ar D.sp).length from aaB _).symm))) (by simp+arith)):_<=60) (by decide)
   .refine YN _ H4 ⟨⟨mK.tr f4,J.1.2⟩,I.aD.up f4 (aaF _),f4.lt I.lt,⟨_,e4,?_⟩,I.l0,I.l1⟩
    rw [aaL,<-aaW]
    exact (ep.2.imp λzz zz r=>r.mono f4 pM).snoc (cZ pa pb fa ⟨rfl,z.2.mono (mK.tr f4) pM⟩)
  .rw [List.map_nil,aaY];exact e.2.imp λzz zz r=>r.mono f2 aV
 .have ep:=I.ex
  rw [List.take_length] at ep
  refine ep.elim λps ep=>ak I.l0 (ak I.l1 (ma m ⟨v7,I.aD.lt Cn,I.aD.keep Cn es,hs.imp λv D z=>z.imp λs z=>z.imp λt z=>⟨z.1,z.2.mono I.aD (P':=vC P H.n) (λa ha h=>⟨id,.inl ⟨h,ha⟩⟩) id id⟩,I.lt,ep.1,ep.2,oY,λx hx=>aq (j4 hx) λj D z=>?_⟩ λH2 ms mt aa E f2 h1 rs ok=>h H2 ms mt aa E (I.aD.tr f2) (aaw I.aD.le h1) ?_ ok))
  .exact ⟨by rw [z.1,abE];exact (aaZ.mp z.2.1).1,Ov D (aaO z.2.1) _ z.2.2⟩
  .exact rs.mono (.refl:ai aJ H2 H2) (λx zz h=>⟨id,aaw I.aD.le h⟩) id id
end
noncomputable def CA (D:Doc) (ix:List Int) (pl:Pl):Prop:=L2 (λi (x:Nat × (Int × Di))=>0<=i/\x.1=0/\(ar D.sp)[i.toNat]? =some x.2) ix pl
structure Ty (P:Nat->Prop) (H:HP) (s t xi:Nat) (D:Doc) (ix:List Int) (pl:Pl):Prop where
 dk:DocOk D
 rs:RS P H s t D.tab D.tr
 Gw:xi < H.n
 MC:H.g xi= .list (ix.map AV.int)
 w8:CA D ix pl
 oY:pl.length+4<=60
 Ov:zX D
section
variable {G:Nat->aj} {H H':HP} {Q:KV} {QS:KS} {k:Nat} {P:Nat->Prop} {loc:Loc}
theorem zB (m:aQ G) {s t xi:Nat} {D:Doc} {ix:List Int} {pl:Pl} (B:Ty P H s t xi D ix pl) (h:Kv [D] pl H Q):G (k+10) "split_pages" [.ref s,.ref xi] H Q:=by
 refine m.run 41 rfl rfl rfl (kI m B.rs B.dk.tree B.dk.ok λH1 ra vs f1 h1 h2 h3 h4=>?_)
 have Zh:∀i∈ix,0<=i/\i < (vs.length:Int):=λi hi=>(B.w8.mem hi).elim λx z=>⟨z.2.1,by rw [h4.len,<-Int.toNat_of_nonneg z.2.1];exact abA.mpr (aaZ.mp z.2.2.2).1⟩
 have il:(ix.map AV.int).length<=lim:=by rw [aaB];exact aaw (B.w8.len▸aaw (aaM ..) B.oY) (by decide)
 refine eJ (aH (f1.keep B.Gw B.MC)) (f1.lt B.Gw) AV.int (λzz=>false) (r:=λv i=>v=AV.int i/\i∈ix) (L2.mJ (L2.diag λx hx=>⟨rfl,hx⟩)) il (λv i H2 C N r f y n=>?_) λH2 a2 f2 qA lD e2=>?_
 .have z:=Zh i r.2
  exact r.1▸MJ z.1 (ad (f.keep h2 h3) (MJ z.2 (n rfl H2 f)))
 rw [Bt] at e2
 refine cN λH3 f3 n3 e3=>ad (f3.keep lD e2) (ad e3 (.inl ⟨⟨rfl,rfl⟩,cN λH4 f4 n4 e4=>?_⟩))
 have MU:=(f2.tr f3).tr f4
 have Ah:=f1.tr MU
 refine cB (aH (Ah.keep B.Gw B.MC)) (Ah.lt B.Gw) (λx:Nat × (Int × Di)=>x) (q:=GX (bf P H.n)) (λzz zz zz zz f r=>GX.mono f aV r) (r:=λv x=>∃i:Int,v= .int i/\0<=i/\x.1=0/\(ar D.sp)[i.toNat]? =some x.2) (L2.mJ (B.w8.imp λi x z=>⟨i,rfl,z⟩)) il (λv x H5 C N r f y=>?_) λH5 a5 ps f5 K4 Tv e5 r5=>?_
 .have OU:=MU.tr f
  refine r.elim λi z=>(h4.get z.2.2.2).elim λu w=>z.1▸ad (OU.keep h2 h3) (KO ?_ (dF (v:=u) w.1 ?_))
  .exact (Int.toNat_of_nonneg z.2.1▸rfl:qF i=true)
  .refine bj w.2 λpa pb fa q=>q.1▸y H5 _ .refl (cZ pa pb fa ⟨by rw [z.2.2.1];rfl,q.2.mono OU aV⟩)
 .rw [List.map_id'] at r5
  have Q7:=Ah.tr f5
  refine ma m (docs:=[D]) (P:=bf P H.n) ⟨λD' hD=>aaK.mp hD▸B.dk,f5.lt (n4▸aaC _),f5.keep (n4▸aaC _) e4,.cons (bH s t ⟨rfl,B.rs.mono Q7 (λzz zz h=>⟨id,.inl h⟩) id id⟩) .nil,Tv,e5,r5,B.oY,λx hx=>?_⟩ λH6 ms mt aa E f6 h6 rs ok=>h H6 ms mt aa E (Q7.tr f6) (aaw Q7.le h6) (rs.mono (.refl:ai aJ H6 H6) (λx zz h=>⟨id,aaw Q7.le h⟩) id id) ok
  exact (B.w8.HF hx).elim λi z=>⟨by rw [z.2.2.1];exact Nat.zero_lt_one,B.Ov _ (aaO z.2.2.2)⟩
end
noncomputable def bu (z:Int) (first count:Nat):Nat:=min (first+z.toNat) count
noncomputable def qy (z:Int) (first count:Nat):List (Nat × Nat):=if first < bu z first count then [(first,bu z first count)] else []
noncomputable def js:List Int->Nat->Nat->List (Nat × Nat)
 | [],_,_=>[]
 | z::r,first,count=>qy z first count++js r (bu z first count) count
noncomputable def dg (l:List Int) (first count:Nat):Nat:=l.foldl (λf z=>bu z f count) first
noncomputable def me (D:Doc) (a b:Nat):Pl:=(((ar D.sp).drop a).take (b - a)).map λp=>(0,p)
theorem rN {count:Nat} {z:Int} {l:List Int}:∀{first:Nat},js (l++[z]) first count=js l first count++qy z (dg l first count) count:=by
 induction l with
 | nil=>exact λ{first}=>aaY _
 | cons w r ih=>
  intro first
  show qy w first count++js (r++[z]) _ count=(qy w first count++js r _ count)++_
  rw [ih,aaW];rfl
theorem nR {count:Nat} {l:List Int}:∀{first:Nat},(js l first count).length<=l.length:=by
 induction l with
 | nil=>exact λ{first}=>aaF _
 | cons z r ih=>
  intro first
  show (qy z first count++_).length<=_
  rw [aaD,aa2,abg r.length]
  refine aaQ ?_ ih
  unfold qy
  by_cases h:first < bu z first count
  .rw [if_pos h];exact aaF _
  .rw [if_neg h];exact abp _
theorem z4 {D:Doc} {a b:Nat}:(me D a b).length<=(ar D.sp).length:=by
 rw [me,aaB]
 exact aaw (List.take_sublist ..).length_le (List.drop_sublist ..).length_le
theorem Kl {D:Doc} {a b:Nat} (h:b<=(ar D.sp).length) (mR:a<=b):CA D ((List.range (b - a)).map λ(i:Nat)=>(a:Int)+i) (me D a b):=by
 have go:∀(n a:Nat),a+n<=(ar D.sp).length->L2 (λ(i:Nat) (x:Int × Di)=>(ar D.sp)[i]? =some x) (List.range' a n) (((ar D.sp).drop a).take n):=by
  intro n
  induction n with
  | zero=>exact λa zz=>.nil
  | succ n ih=>
   intro a h
   have ha:a < (ar D.sp).length:=aax (abl (Nat.succ_pos n)) h
   rw [List.drop_eq_getElem_cons ha,abD]
   exact .cons (aaR ha) (ih (a+1) (by rw [aa9,abg 1];exact h))
 have:=go (b - a) a (by rw [Nat.add_sub_cancel' mR];exact h)
 rw [List.range'_eq_map_range] at this
 have h2:L2 (λ(i:Int) (x:Int × Di)=>0<=i/\(0:Nat)=0/\(ar D.sp)[i.toNat]? =some x) ((List.range (b - a)).map λ(i:Nat)=>(a:Int)+i) (((ar D.sp).drop a).take (b - a)):=by
  have e:((List.range (b - a)).map λ(i:Nat)=>(a:Int)+i)=((List.range (b - a)).map (a+·)).map λ(i:Nat)=>(i:Int):=by rw [aa5];exact abq λzz zz=>(Int.natCast_add ..).symm
  rw [e]
  exact L2.mJ (this.imp λi x z=>⟨aa0 i,rfl,z⟩)
 exact L2.xq (h2.imp λzz zz z=>z)
noncomputable def gq (D:Doc) (lo:Nat) (H:HP) (v:AV) (x:Nat × Nat):Prop:=∃ms mt aa E,v= .ref ms/\RS (bw lo) H ms mt aa [("Root",.at (.ref 1))]/\ft [D] (me D x.1 x.2) aa E
theorem Ox {xs:List AV} {c:String} {fs:List (String × AV)}:AO.list xs≠ .inst c fs:=nofun
theorem QR {xs:List AV} {es:List (AV × AV)}:AO.list xs≠ .dict es:=nofun
theorem gq.mono {D:Doc} {lo fa:Nat} {H H':HP} (f:ai (atS fa) H H') (OV:fa < lo) {xs:List AV} (e:H.g fa= .list xs) {v:AV} {x:Nat × Nat} (r:gq D lo H v x):gq D lo H' v x:=
 r.imp λms r=>r.imp λmt r=>r.imp λaa r=>r.imp λE r=>⟨r.1,r.2.1.mono f (λy zz h=>⟨aaN (aax OV h),h⟩) (λq=>r.2.1.ins.elim λzz z=>Ox (e.symm.trans ((congrArg H.g q).symm.trans z.1))) (λq=>r.2.1.tb.elim λzz z=>QR (e.symm.trans ((congrArg H.g q).symm.trans z.1))),r.2.2⟩
theorem gq.mn {D:Doc} {lo:Nat} {H H':HP} (f:ai aJ H H') {v:AV} {x:Nat × Nat} (r:gq D lo H v x):gq D lo H' v x:=
 r.imp λms r=>r.imp λmt r=>r.imp λaa r=>r.imp λE r=>⟨r.1,r.2.1.mono f aV id id,r.2.2⟩
section
variable {G:Nat->aj} {H H':HP} {Q:KV} {QS:KS} {k:Nat} {P:Nat->Prop} {loc:Loc}
structure Tn (P:Nat->Prop) (H:HP) (s t xi:Nat) (D:Doc) (ja:List Int):Prop where
 dk:DocOk D
 rs:RS P H s t D.tab D.tr
 Gw:xi < H.n
 MC:H.g xi= .list (ja.map AV.int)
 Cn:ja.length < 100
 Ov:zX D
 gx:(ar D.sp).length<=50
structure Sj (H:HP) (s fa:Nat) (D:Doc) (count:Nat) (H6:HP) (dn:List Int) (loc:Loc) (H':HP):Prop where
 aD:ai aJ H H'
 f6:ai (atS fa) H6 H'
 lt:fa < H'.n
 ex:∃parts,H'.g fa= .list parts/\L2 (gq D (fa+1) H') parts (js dn 0 count)
 le:dg dn 0 count<=count
 l0:loc "shelf"= .ref s
 l1:loc "found"= .ref fa
 l2:loc "first"= .int (dg dn 0 count)
 l3:loc "count"= .int count
noncomputable def Ny (D:Doc) (ja:List Int) (H:HP) (Q:KV):Prop:=∀H' fa lo parts,ai aJ H H'->H.n<=fa->fa < H'.n->H'.g fa= .list parts->H.n<=lo->L2 (gq D lo H') parts (js (ja++[((ar D.sp).length:Int)]) 0 (ar D.sp).length)->Q (.ref fa) H'
theorem vM {l:List Int} {z:Int} {a count:Nat}:dg (l++[z]) a count=bu z (dg l a count) count:=List.foldl_append ..
theorem dm {z:Int} {first count:Nat}:(if (count:Int) < (first:Int)+(if (0:Int) > z then 0 else z) then (count:Int) else (first:Int)+(if (0:Int) > z then 0 else z))=((bu z first count:Nat):Int):=by
 have e:(if (0:Int) > z then 0 else z)=(z.toNat:Int):=by
  by_cases h:0 > z
  .rw [if_pos h,Int.toNat_of_nonpos (Int.le_of_lt h)];rfl
  .rw [if_neg h,Int.toNat_of_nonneg (Int.not_lt.mp h)]
 rw [e]
 show _=((min (first+z.toNat) count:Nat):Int)
 by_cases h:count < first+z.toNat
 .rw [if_pos (show (count:Int) < first+z.toNat from MQ (b:=first+z.toNat) h),Nat.min_eq_right (aaI h)]
 .rw [if_neg (show ¬(count:Int) < first+z.toNat from λx=>h (HL (b:=first+z.toNat) x)),Nat.min_eq_left (aaP.mp h)];rfl
theorem Ea {a b:Nat}:aN (a:Int) (b:Int)=((List.range (b - a)).map λ(i:Nat)=>(a:Int)+i).map AV.int:=by
 unfold aN
 rw [aa5,show ((b:Int) - (a:Int)).toNat=b - a from Int.toNat_sub _ _];rfl
theorem P3 (m:aQ G) {s t xi:Nat} {D:Doc} {ja:List Int} (B:Tn P H s t xi D ja) (h:Ny D ja H Q):G (k+11) "cut_into" [.ref s,.ref xi] H Q:=by
 refine m.run 42 rfl rfl rfl (kI m B.rs B.dk.tree B.dk.ok λH1 ra vs f1 h1 h2 h3 h4=>ad h3 (cN λH2 f2 n2 e2=>?_))
 have fL:=f1.tr f2
 have Sg:H1.n < H2.n:=n2▸aaC _
 refine ad (fL.keep B.Gw B.MC) (cN λH3 f3 n3 e3=>cN λH4 f4 n4 e4=>ad (f4.keep (n3▸aaC _) e3) (ad e4 ⟨?_,cN λH5 f5 n5 e5=>?_⟩))
 .rw [aaB,abe];exact aaw (aaI (abv B.Cn)) (by decide:101<=lim)
 have Sq:=(f3.tr f4).tr f5
 have l4:H4.n < H5.n:=n5▸aaC _
 have e5:H5.g H4.n= .list ((ja++[((ar D.sp).length:Int)]).map AV.int):=e5.trans (by rw [aaL,h4.len];rfl)
 have zl:(ja++[((ar D.sp).length:Int)]).length < 102:=by rw [aaD];exact Nat.lt_succ_of_lt (abv B.Cn)
 unfold Ny at h
 generalize ja++[((ar D.sp).length:Int)]=zs at e5 h zl
 refine dF (aH e5) (Ip (d:=[]) (all:=zs) (r:=λv z=>v=AV.int z) (Sj H s H1.n D (ar D.sp).length H5) (λJ=>bC J.f6 l4 (aaN (aax Sg (f3.tr f4).le)) ⟨aH e5,rfl⟩) (λv z dn rest ed rv loc' H' C I hC zz=>?_) (L2.mJ (L2.diag λzz zz=>rfl)) rfl ⟨(fL.tr Sq),.refl,Sq.lt Sg,⟨[],Sq.keep Sg e2,.nil⟩,abp _,rfl,rfl,rfl,congrArg (λ(n:Nat)=>AV.int n) h4.len⟩ λloc' H' I=>?_)
 .have fz:dg (dn++[z]) 0 (ar D.sp).length=bu z (dg dn 0 (ar D.sp).length) (ar D.sp).length:=vM
  have cz:js (dn++[z]) 0 (ar D.sp).length=js dn 0 (ar D.sp).length++qy z (dg dn 0 (ar D.sp).length) (ar D.sp).length:=rN
  have Rn:bu z (dg dn 0 (ar D.sp).length) (ar D.sp).length<=(ar D.sp).length:=Nat.min_le_right _ _
  have pl:∀parts,L2 (gq D (H1.n+1) H') parts (js dn 0 (ar D.sp).length)->parts.length < lim:=λparts r=>aaz (r.len▸nR) (aaz (ed▸(List.sublist_append_left ..).length_le:dn.length<=zs.length) (aaA zl (by decide)))
  unfold qy at cz
  refine rv▸ak I.l2 (ak I.l3 (ak I.l2 (yO (λtx=>?_) λjR=>?_)))
  .have tx:=abA.mp (dm▸tx)
   rw [if_pos tx] at cz
   refine I.ex.elim λparts e=>ak I.l1 (ad e.1 (ak I.l0 (ak I.l2 ⟨⟨aa0 _,dm▸Int.ofNat_le.mpr (aaI tx),dm▸Int.ofNat_le.mpr (aaw Rn (aaw B.gx (by decide)))⟩,cN λH7 f7 n7 e7=>?_⟩)))
   refine zB m (pl:=me D _ _) ⟨B.dk,B.rs.mn (I.aD.tr f7),n7▸aaC _,e7.trans (congrArg AO.list ((congrArg (aN _) dm).trans Ea)),Kl Rn (aaI tx),aaw (abb (aaw z4 B.gx) 4) (by decide),B.Ov⟩ λH8 ms mt aa E f8 h8 rs ok=>?_
   have QN:=f7.tr f8
   have e8:=QN.keep I.lt e.1
   refine ad e8 ⟨pl parts e.2,ng e8 λH9 f9 n9 e9=>hC _ H9 ⟨(I.aD.tr QN).up f9 f1.le,(I.f6.tn QN).tr f9,f9.lt (QN.lt I.lt),⟨_,e9,?_⟩,fz▸Rn,I.l0,I.l1,fz▸congrArg AV.int dm,I.l3⟩⟩
   rw [cz]
   exact (e.2.imp λzz zz r=>(r.mn QN).mono f9 (aaC _) e8).snoc (gq.mono f9 (aaC _) e8 (jW ms mt aa E ⟨rfl,rs.mono (.refl:ai aJ H8 H8) (λx zz h=>⟨id,aaw (Nat.succ_le_of_lt (f7.lt I.lt)) h⟩) id id,ok⟩))
  .rw [if_neg λq=>jR (dm▸abA.mpr q),aaY] at cz
   exact hC _ H' ⟨I.aD,I.f6,I.lt,cz▸I.ex,fz▸Rn,I.l0,I.l1,fz▸congrArg AV.int dm,I.l3⟩
 .exact I.ex.elim λparts e=>ak I.l1 (h H' H1.n _ parts I.aD f1.le I.lt e.1 (abx f1.le) e.2)
end
theorem iG {key:String} {d:Di} (h:key ∉ d.map (·.1)):look key d= .none:=by
 cases e:look key d with
 | none=>rfl
 | some v=>exact absurd (aaG.mpr ⟨_,cA e,rfl⟩) h
theorem wI {key bad:String} {d:Di}:look key (d.filter λx=>!decide (x.1=bad))=if key=bad then .none else look key d:=by
 induction d with
 | nil=>exact (ite_self _).symm
 | cons x r ih=>
  obtain ⟨j,v⟩:=x
  by_cases e:j=bad
  .rw [List.filter_cons_of_neg ((decide_eq_true e).symm▸aaE),ih]
   by_cases q:key=bad
   .rw [if_pos q,if_pos q]
   .rw [if_neg q,if_neg q,aL (e▸abm q)]
  .rw [List.filter_cons_of_pos (congrArg _ (decide_eq_false e))]
   by_cases q:j=key
   .rw [<-q,aY,aY,if_neg e]
   .rw [aL q,aL q,ih]
theorem iU {key:String} {d:Di}:look key (fT d)=if key="Type" then some (.at (.name "Page")) else if key="Parent" then .none else look key d:=by
 unfold fT
 rw [az,wI]
 by_cases e:key="Type"
 .rw [if_pos e.symm,if_pos e]
 .rw [if_neg (abm e),if_neg e]
noncomputable def nP (va:Va):Option Va:=bif va.nul then .none else some va
theorem oR {key:String} {tbl:List (Int × Int)} {d:Di}:(d.map (·.1)).Nodup->look key (jt tbl d)=(look key d).bind λva=>nP (ib tbl va):=by
 induction d with
 | nil=>exact λzz=>rfl
 | cons x r ih=>
  obtain ⟨j,v⟩:=x
  intro nd
  have nd:=aa8.mp nd
  have ih:=ih nd.2
  have hr:jt tbl ((j,v)::r)=bif (ib tbl v).nul then jt tbl r else (j,ib tbl v)::jt tbl r:=by
   unfold jt
   rw [aa4,List.filter_cons]
   cases (ib tbl v).nul<;>rfl
  rw [hr]
  by_cases e:j=key
  .have n:=iG nd.1
   rw [<-e] at ih ⊢
   rw [n] at ih
   rw [aY,Option.bind_some,nP]
   cases (ib tbl v).nul with
   | true=>exact ih
   | false=>exact aY
  .rw [aL e,<-ih]
   cases (ib tbl v).nul with
   | true=>rfl
   | false=>exact aL e
theorem iO {d:Di} (h:(d.map (·.1)).Nodup):((fT d).map (·.1)).Nodup:=c5 ((List.filter_sublist.map _).nodup h)
theorem Ms {d:Di} {tbl:List (Int × Int)} (h:(d.map (·.1)).Nodup):((jt tbl d).map (·.1)).Nodup:=by
 have h1:=(List.filter_sublist (p:=λx:String × Va=>!x.2.nul) (l:=d.map λx=>(x.1,ib tbl x.2))).map (·.1)
 rw [aa5] at h1
 exact h1.nodup h
theorem zk {d:Di} {tbl:List (Int × Int)} (h:(d.map (·.1)).Nodup):((dM tbl d).map (·.1)).Nodup:=c5 (Ms (iO h))
theorem iJ {key:String} {d:Di} {tbl:List (Int × Int)} (h:(d.map (·.1)).Nodup) (k1:key≠"Parent") (k2:key≠"Type"):look key (dM tbl d)=(look key d).bind λva=>nP (ib tbl va):=by
 unfold dM
 rw [az,if_neg (abm k1),oR (iO h),iU,if_neg k2,if_neg k1]
theorem kP {d:Di} (h:(d.map (·.1)).Nodup) {m:Int}:m∈cK d ↔ ∃key va,look key d=some va/\m∈gS va:=
 List.mem_flatMap.trans ⟨λz=>z.elim λx z=>(bH x.1 x.2 ⟨ch h z.1,z.2⟩),λz=>aq z λkey va z=>⟨_,cA z.1,z.2⟩⟩
theorem qY {tbl:List (Int × Int)} {va:Va} {m q:Int} (h:m∈gS va) (e:ae m tbl=some q):q∈gS (ib tbl va)/\(ib tbl va).nul=false:=by
 have go:∀a:At,mO a=some m->oA tbl a= .ref q:=λa h=>by
  cases a with
  | ref n=>rw [<-aay h] at e;show ((ae n tbl).map At.ref).getD .none=_;rw [e];rfl
  | _=>cases h
 cases va with
 | «at» a=>
  show q∈(mO (oA tbl a)).toList/\Va.nul (.at (oA tbl a))=_
  exact (go a (Option.mem_toList.mp h))▸⟨.head _,rfl⟩
 | arr xs=>exact ⟨(abB.mp h).elim λa z=>abB.mpr ⟨_,aaG.mpr ⟨a,z.1,rfl⟩,go a z.2▸rfl⟩,rfl⟩
theorem Ba {d:Di} {tbl:List (Int × Int)} (h:(d.map (·.1)).Nodup) {m q:Int} (hm:m∈cK (fT d)) (e:ae m tbl=some q):q∈cK (dM tbl d):=by
 refine aq ((kP (iO h)).mp hm) λkey va z=>(kP (zk h)).mpr (bH key (ib tbl va) ⟨?_,(qY z.2 e).1⟩)
 have k1:key≠"Parent":=λk=>by rw [k,iU] at z;exact nomatch z.1
 unfold dM
 rw [az,if_neg (abm k1),oR (iO h),z.1,Option.bind_some,nP,(qY z.2 e).2];rfl
theorem q9 {d aR:Di} {x key:String} (h:x≠key):look key (eY d aR x)=look key aR:=by
 unfold eY
 cases look x d with
 | none=>rfl
 | some v=>exact az.trans (if_neg h)
theorem xh {d:Di} {key:String} (h:look key d= .none):∀{l:List String} {aR:Di},look key aR= .none->look key (l.foldl (eY d) aR)= .none:=by
 intro l
 induction l with
 | nil=>exact id
 | cons x l ih=>
  refine λ{aR} hi=>ih ?_
  by_cases e:x=key
  .rw [e];unfold eY;exact (h).symm▸hi
  .exact (q9 e).trans hi
theorem vz {L:Di}:iN L (cI L [])=L:=by
 have hl:∀(l:List String),l.foldl (dP L (cI L [])) L=L:=λl=>by
  induction l with
  | nil=>rfl
  | cons x l ih=>
   have:dP L (cI L []) L x=L:=by
    unfold dP
    cases e:look x L with
    | some _=>rfl
    | none=>show ((look x (cI L [])).map _).getD L=L;unfold cI;rw [xh e rfl];rfl
   rw [List.foldl_cons,this,ih]
 exact hl ax
noncomputable def KE:Ob:= .stream [] [113,32,81]
noncomputable def L6:Ob:= .stream [("A",.at (.int 1))] [102]
structure wL (D:Doc) (d:Di):Prop where
 nd:(d.map (·.1)).Nodup
 ok:eI d
 len:d.length < 60
 vals:∀key va,look key d=some va->key≠"Peer"->key≠"Parent"->gS va=[]\/∃m o,va= .at (.ref m)/\ah m D.tab=some o/\D.bs m=false/\o≠ .null
 mT:∀va,look "Peer" d=some va->∃m,va= .at (.ref m)/\D.bs m=true
 cont:(look "Contents" d=some (.at (.ref 3))/\ah 3 D.tab=some KE)\/(look "Contents" d=some (.at (.ref 4))/\ah 4 D.tab=some L6)
noncomputable def fB (docs:List Doc) (pl:Pl):Prop:=∀x∈pl,∃D,docs[x.1]? =some D/\wL D x.2.2/\D.bs x.2.1=true
section
variable {docs:List Doc} {pl:Pl} {aa:List (Int × Ob)} {E:List (Nat × Int)} {i:Nat} {D:Doc} {m q:Int}
theorem sB (hp:fB docs pl) (hD:docs[i]? =some D) (hm:D.bs m=false):ae m (fS i (cy pl))= .none:=by
 cases e:ae m (fS i (cy pl)) with
 | none=>rfl
 | some q=>
  refine (FF _ e).elim λj h=>?_
  refine (aaG.mp (aaO h.1)).elim λx z=>(hp x z.1).elim λD' w=>?_
  rw [(show x.1=i from congrArg Prod.fst z.2),hD] at w
  obtain rfl:=aay (w.1)
  rw [(show x.2.1=m from congrArg Prod.snd z.2),hm] at w
  exact absurd (w.2.2) aaE
theorem HV (ok:ft docs pl aa E) (hp:fB docs pl) (hD:docs[i]? =some D) (hm:D.bs m=false) (h:ae m (bO pl E i)=some q):∃(k:Nat) (o:Ob),(E[k]? =some (i,m)/\q=3+(pl.length:Int)+k)/\ah m D.tab=some o/\ah q aa=some o:=by
 unfold bO at h
 rw [cc,sB hp hD hm] at h
 refine (v8 h).elim λk z=>aq (ok.ents k i m z.1) λD' o w=>(bH k o ⟨z,?_,z.2▸w.at_⟩)
 obtain rfl:=aay (hD.symm.trans w.doc)
 exact w.src
theorem Mw (ok:ft docs pl aa E) (hD:docs[i]? =some D) (hm:D.bs m=true):ae m (bO pl E i)=ae m (fS i (cy pl)):=by
 unfold bO
 rw [cc]
 cases e:ae m (fS i (cy pl)) with
 | some q=>rfl
 | none=>
  show ae m (eA i E _)=_
  cases e2:ae m (eA i E (3+(pl.length:Int))) with
  | none=>rfl
  | some q=>
   refine (v8 e2).elim λk z=>aq (ok.ents k i m z.1) λD' o w=>?_
   obtain rfl:=aay (hD.symm.trans w.doc)
   exact nomatch hm.symm.trans w.bs
structure tj (docs:List Doc) (pl:Pl) (aa:List (Int × Ob)) (E:List (Nat × Int)) (i:Nat) (D:Doc) (d L:Di):Prop where
 nd:(L.map (·.1)).Nodup
 parent:look "Parent" L=some (.at (.ref 2))
 type:look "Type" L=some (.at (.name "Page"))
 TG:∀key,key≠"Parent"->key≠"Type"->look key d= .none->look key L= .none
 val:∀key va,key≠"Parent"->key≠"Type"->look key d=some va->gS va=[]->look key L=some va
 ref:∀key m,key≠"Parent"->key≠"Type"->look key d=some (.at (.ref m))->D.bs m=false->∃(k:Nat) (o:Ob),look key L=some (.at (.ref (3+(pl.length:Int)+k)))/\E[k]? =some (i,m)/\ah m D.tab=some o/\ah (3+(pl.length:Int)+k) aa=some o
 mT:∀m,look "Peer" d=some (.at (.ref m))->look "Peer" L=(ae m (fS i (cy pl))).map λq=>.at (.ref q)
theorem vx {tb:List (Int × Int)}:nP (ib tb (.at (.ref m)))=(ae m tb).map λq=>.at (.ref q):=by
 show nP (.at (((ae m tb).map At.ref).getD .none))=_
 cases ae m tb<;>rfl
theorem GJ (ok:ft docs pl aa E) (hp:fB docs pl) {j:Nat} {n:Int} {d:Di} (hj:pl[j]? =some (i,(n,d))):∃D,docs[i]? =some D/\wL D d/\ah (3+(j:Int)) aa=some (.dict (dM (bO pl E i) d))/\tj docs pl aa E i D d (dM (bO pl E i) d):=by
 refine (hp _ (aaO hj)).elim λD z=>?_
 have hD:docs[i]? =some D:=z.1
 have pg:wL D d:=z.2.1
 have w:=ok.done j i n d (aaZ.mp hj).1 hj
 have nd:=pg.nd
 refine ⟨D,hD,pg,w.1,zk nd,az.trans (if_pos rfl),?_,λkey k1 k2 h=>by rw [iJ nd k1 k2,h];rfl,λkey va k1 k2 h e=>?_,λkey m k1 k2 h hb=>?_,λm h=>?_⟩
 .unfold dM
  rw [az,if_neg (by decide),oR (iO nd),iU,if_pos rfl];rfl
 .rw [iJ nd k1 k2,h,Option.bind_some,rY e,nP]
  cases q:va.nul with
  | true=>exact absurd (Au.mp q) (pg.ok.2 _ (cA h)).1
  | false=>rfl
 .have Vm:m∈cK (fT d):=(kP (iO nd)).mpr (bH key _ ⟨by rw [iU,if_neg k2,if_neg k1];exact h,.head _⟩)
  have th:aM D.tab m=true:=by
   by_cases k3:key="Peer"
   .refine (pg.mT _ (k3▸h)).elim λm' q=>?_
    cases q.1
    exact nomatch hb.symm.trans q.2
   .refine (pg.vals key _ h k3 k1).elim (λe=>nomatch e) λq=>aq q λm' o q=>?_
    cases q.1
    unfold aM;rw [q.2.1];rfl
  obtain ⟨q,hq⟩:=aa7.mp (w.2 D hD m Vm th hb)
  refine aq (HV ok hp hD hb hq) λk o x=>(bH k o ⟨?_,x.1.1,x.2.1,x.1.2▸x.2.2⟩)
  rw [iJ nd k1 k2,h,Option.bind_some,vx,hq,x.1.2];rfl
 .refine (pg.mT _ h).elim λm' q=>?_
  cases q.1
  rw [iJ nd (by decide) (by decide),h,Option.bind_some,vx,Mw ok hD q.2]
end
noncomputable def mD (pl:Pl) (E:List (Nat × Int)) (j:Nat):Di:=(pl[j]?.map λx=>dM (bO pl E x.1) x.2.2).getD []
noncomputable def WD (pl:Pl) (E:List (Nat × Int)) (j:Nat):aW:=⟨3+(j:Int),mD pl E j,cI (mD pl E j) [],true⟩
noncomputable def S7 (pl:Pl) (E:List (Nat × Int)):List aW:=⟨2,kn pl.length,[],false⟩::(List.range pl.length).map (WD pl E)
noncomputable def qC (pl:Pl) (E:List (Nat × Int)):List (Int × Di):=(List.range pl.length).map λ(j:Nat)=>(3+(j:Int),mD pl E j)
noncomputable def Mq:Di:=[("Root",.at (.ref 1))]
section
variable {docs:List Doc} {pl:Pl} {aa:List (Int × Ob)} {E:List (Nat × Int)} {j:Nat}
structure tP (docs:List Doc) (pl:Pl) (aa:List (Int × Ob)) (E:List (Nat × Int)) (j i:Nat) (n:Int) (d:Di) (D:Doc):Prop where
 at_:pl[j]? =some (i,(n,d))
 doc:docs[i]? =some D
 pg:wL D d
 tb:ah (3+(j:Int)) aa=some (.dict (mD pl E j))
 lo:tj docs pl aa E i D d (mD pl E j)
 eq:mD pl E j=dM (bO pl E i) d
theorem gz (ok:ft docs pl aa E) (hp:fB docs pl) (hj:j < pl.length):∃i n d D,tP docs pl aa E j i n d D:=by
 have h:pl[j]? =some pl[j]:=aaR hj
 generalize pl[j]=x at h
 obtain ⟨i,n,d⟩:=x
 have e:mD pl E j=dM (bO pl E i) d:=by unfold mD;rw [h];rfl
 exact (GJ ok hp h).elim λD z=>(jW i n d D ⟨h,z.1,z.2.1,e▸z.2.2.1,e▸z.2.2.2,e⟩)
theorem ip:∀key∈ax,(key≠"Parent"/\key≠"Type")/\(key≠"Kids"/\key≠"Count")/\key≠"Peer":=by decide
theorem Fj {i:Nat} {n:Int} {d:Di} {D:Doc} (p:tP docs pl aa E j i n d D):qR aa (mD pl E j):=by
 intro key uP va tZ
 have k:=ip key uP
 cases e:look key d with
 | none=>rw [p.lo.TG key k.1.1 k.1.2 e] at tZ;exact nomatch tZ
 | some Wt=>
  refine (p.pg.vals key Wt e k.2.2 k.1.1).elim (λq=>?_) λq=>aq q λm o q=>?_
  .replace tZ:=(p.lo.val key Wt k.1.1 k.1.2 e q)▸tZ
   cases tZ
   cases va with
   | «at» a=>cases a with
    | none=>exact absurd rfl ((p.pg.ok.2 _ (cA e)).1)
    | ref n=>cases q
    | _=>trivial
   | arr _=>trivial
  .rw [q.1] at e
   refine aq (p.lo.ref key m k.1.1 k.1.2 e q.2.2.1) λk o' z=>?_
   rw [z.1] at tZ
   obtain rfl:=aay tZ
   exact ⟨o',z.2.2.2,aay (z.2.2.1.symm.trans q.2.1)▸q.2.2.2⟩
theorem Lr {n:Nat}:cI (kn n) []=[]:=rfl
theorem CB (ok:ft docs pl aa E) (hp:fB docs pl) {l:List Nat}:(∀j∈l,j < pl.length)->Wk aa ((l.map λ(i:Nat)=>(3:Int)+i).map λn=>(n,([]:Di))) (l.map (WD pl E)):=by
 induction l with
 | nil=>exact λzz=>rfl
 | cons j l ih=>
  exact λh=>bF (gz ok hp (h j (.head _))) λi n d D p=>(cZ ([]) _ ([]) ⟨rfl,⟨p.tb,.inr (.inl ⟨p.lo.type,rfl⟩),Fj p,by decide,rfl,.inl ⟨rfl,rfl⟩⟩,ih λx hx=>h x (.tail _ hx)⟩)
theorem A5 (ok:ft docs pl aa E) (hp:fB docs pl) (hl:pl.length<=60):Tree aa Mq (S7 pl E):=by
 refine ⟨(cZ 1 sR 2 ⟨⟨aY,ok.root⟩,rfl,[],[],cY pl.length,rfl,⟨ok.node,.inl ⟨aY,rfl⟩,λkey hk va tZ=>?_,by decide,rfl,.inr ⟨rfl,rfl⟩⟩,?_⟩),?_,?_,?_⟩
 .have k:=ip key hk
  unfold kn at tZ
  rw [aL (abm k.1.2),aL (abm k.2.1.1),aL (abm k.2.1.2)] at tZ
  exact nomatch tZ
 .rw [aaY]
  exact CB ok hp λj hj=>List.mem_range.mp hj
 .show ((2:Int)::_).Nodup
  rw [aa5,aa8]
  refine ⟨λh=>(aaG.mp h).elim λx z=>?_,List.Pairwise.map _ (λa b (h:a < b) e=>?_) List.pairwise_lt_range⟩
  .have:(3:Int)+x=2:=z.2
   exact Nv this
  .have e:(3:Int)+a=3+b:=e
   exact aaJ h (qD (Int.add_left_cancel e))
 .show List.length _+1 < 1000
  rw [aaB,List.length_range]
  exact aaz (aa1 hl) (by decide)
 .exact λx DU e=>(abf e).1▸rfl
theorem xQ:ar (S7 pl E)=qC pl E:=by
 delta ar S7
 rw [List.filter_cons_of_neg aaE,(List.filter_eq_self.mpr λx hx=>(aaG.mp hx).elim λy z=>z.2▸rfl),aa5]
 exact abq λj zz=>congrArg (Prod.mk (3+(j:Int))) vz
theorem F9 (ok:ft docs pl aa E) (hp:fB docs pl) (C:List Int) (ui:RX aa (cK (ue Mq)) C) (n:Int) (hn:aM aa n=true):n∈C:=by
 have th:∀{m o},ah m aa=some o->aM aa m=true:=λh=>by unfold aM;rw [h];rfl
 have c1:(1:Int)∈C:=ui.base 1 (.head _) (th ok.root)
 have c2:(2:Int)∈C:=ui.step 1 c1 _ ok.root 2 (.head _) (th ok.node)
 have h:=(bD ok.num).mp ((aa7.mp hn).elim λo e=>aaG.mpr ⟨_,bo e,rfl⟩)
 have pg:∀j:Nat,j < pl.length->(3+(j:Int))∈C:=λj hj=>bF (gz ok hp hj) λi n d D p=>by
  refine ui.step 2 c2 _ ok.node _ (List.mem_flatMap.mpr ⟨("Kids",.arr ((cY pl.length).map At.ref)),.tail _ (.head _),abB.mpr ⟨.ref (3+(j:Int)),aaG.mpr ⟨_,aaO (pV hj),rfl⟩,rfl⟩⟩) (th p.tb)
 by_cases e1:n=1
 .exact e1▸c1
 by_cases e2:n=2
 .exact e2▸c2
 by_cases e3:n<=2+pl.length
 .have:=pg (n - 3).toNat (zt (MZ (MZ h.1 (abm e1)) (abm e2)) (Int.lt_of_le_of_lt e3 (Int.add_lt_add_right (by decide) _)))
  rwa [show (3:Int)+((n - 3).toNat:Int)=n from zu (MZ (MZ h.1 (abm e1)) (abm e2))] at this
 .have hk:(n - 3 - pl.length).toNat < E.length:=by have:=ok.len;exact O4 h.1 h.2 e3 this
  have e:E[(n - 3 - pl.length).toNat]? =some E[(n - 3 - pl.length).toNat]:=aaR hk
  generalize E[(n - 3 - pl.length).toNat]=x at e
  obtain ⟨i,m⟩:=x
  refine aq (ok.ents _ i m e) λD o z=>bj z.why λj n' d w=>?_
  refine bF (gz ok hp w.1) λi' n2 d' D' p=>?_
  cases w.2.1.symm.trans p.at_
  refine ui.step _ (pg j w.1) _ p.tb n ?_ hn
  rw [p.eq]
  obtain rfl:=aay (p.doc.symm.trans z.doc)
  have:=iI (i:=i) (m:=m) (q:=3+(pl.length:Int)) ok.nd e
  refine Ba p.pg.nd w.2.2 ?_
  unfold bO
  rw [cc,sB hp z.doc z.bs]
  exact this.trans (congrArg some (Qd e3))
end
noncomputable def wK:Ob->AV
 | .stream d b=>.tup [.str "to",md d,.bytes b]
 | o=>.tup [.str "to",qO o,.bytes []]
noncomputable def wx (tab:List (Int × Ob)):Va->AV
 | .at (.ref n)=>((ah n tab).map wK).getD .none
 | va=>mB va
theorem jG {tab:List (Int × Ob)} {n:Int} {o:Ob} (e:ah n tab=some o):wx tab (.at (.ref n))=wK o:=congrArg (λx=>(Option.map wK x).getD .none) e
theorem V2:wK KE=vA:=rfl
theorem VB:wK L6=vB:=rfl
theorem o8 {tab:List (Int × Ob)} {va:Va} (h:va.isRef=false):wx tab va=mB va:=by
 cases va with
 | «at» a=>cases a with
  | ref n=>cases h
  | _=>rfl
 | arr xs=>rfl
theorem Fy {docs:List Doc} {pl:Pl} {aa:List (Int × Ob)} {E:List (Nat × Int)} {i:Nat} {D:Doc} {d L:Di} (h:tj docs pl aa E i D d L) (pg:wL D d) {key:String} {va:Va} (k1:key≠"Parent") (k2:key≠"Type") (k3:key≠"Peer") (e:look key d=some va):∃Jx,look key L=some Jx/\wx aa Jx=wx D.tab va:=by
 refine (pg.vals key va e k3 k1).elim (λq=>⟨va,h.val key va k1 k2 e q,?_⟩) λq=>aq q λm o q=>?_
 .have:va.isRef=false:=by
   cases va with
   | «at» a=>cases a with
    | ref n=>cases q
    | _=>rfl
   | arr xs=>rfl
  rw [o8 this,o8 this]
 .rw [q.1] at e ⊢
  refine aq (h.ref key m k1 k2 e q.2.2.1) λk o' z=>⟨_,z.1,(jG z.2.2.2).trans (jG z.2.2.1).symm⟩
theorem bX {n:Nat} {xs:List AV}:(∀x∈xs,x.plain n=true)->AV.eu xs n=true:=by
 induction xs with
 | nil=>exact λzz=>rfl
 | cons x r ih=>exact λh=>aaV.mpr ⟨h x (.head _),ih λy hy=>h y (.tail _ hy)⟩
theorem sV (a:At) (n:Nat):(oO a).plain (n+1)=true:=by cases a<;>rfl
theorem GQ (v:Va) (n:Nat):(mB v).plain (n+2)=true:=by
 cases v with
 | «at» a=>exact sV a (n+1)
 | arr xs=>exact bX (xs:= .str "array"::xs.map oO) λx hx=>(aaH.mp hx).elim (λe=>e▸rfl) λhx=>(aaG.mp hx).elim λa z=>z.2▸sV a n
theorem jK (d:Di) (n:Nat):(md d).plain (n+4)=true:=bX (xs:= .str "dict"::(bt (bI d)).map (Ag d)) λx hx=>(aaH.mp hx).elim (λe=>e▸rfl) λhx=>(aaG.mp hx).elim λkey z=>(aaG.mp (bP.mp z.1)).elim λy w=>by
 rw [<-z.2,<-w.2]
 show ((((look y.1 d).map mB).getD .none).plain (n+2)&&true)=true
 rw [Bool.and_true]
 cases look y.1 d with
 | none=>rfl
 | some v=>exact GQ v n
noncomputable def E1 (v:AV):Prop:=∃xs,v= .tup xs/\AV.eu xs eG=true
theorem E1.eq {u v:AV} {H:HP} {Q:Bool->Prop} (h:E1 u) (e:u=v) (q:Q true):MN u v H Q:=h.elim λxs z=>e▸(show MN u u H Q from z.1.symm▸⟨⟨rfl,z.2⟩,q⟩)
theorem DK (o:Ob):E1 (wK o):=by
 cases o with
 | null=>exact ⟨_,rfl,rfl⟩
 | dict d=>exact ⟨_,rfl,bX λx hx=>(aaH.mp hx).elim (λe=>e▸rfl) λhx=>(aaH.mp hx).elim (λe=>e▸jK d 56) λhx=>aaK.mp hx▸rfl⟩
 | stream d b=>exact ⟨_,rfl,bX λx hx=>(aaH.mp hx).elim (λe=>e▸rfl) λhx=>(aaH.mp hx).elim (λe=>e▸jK d 56) λhx=>aaK.mp hx▸rfl⟩
theorem lM (a:At):E1 (oO a):=by cases a<;>exact ⟨_,rfl,rfl⟩
theorem Fs {tab:List (Int × Ob)} {va:Va} (h:∀n,va= .at (.ref n)->(ah n tab).isSome=true):E1 (wx tab va):=by
 cases va with
 | «at» a=>cases a with
  | ref n=>exact (aa7.mp (h n rfl)).elim λo e=>(jG e).symm▸DK o
  | none=>exact lM .none
  | int i=>exact lM (.int i)
  | name s=>exact lM (.name s)
 | arr xs=>exact ⟨_,rfl,bX λx hx=>(aaH.mp hx).elim (λe=>e▸rfl) λhx=>(aaG.mp hx).elim λa z=>z.2▸sV a 59⟩
section
variable {G:Nat->aj} {H H':HP} {Q:KV} {k s t:Nat} {P P':Nat->Prop} {tab:List (Int × Ob)} {tr:Di}
theorem jd (m:aQ G) {v:AV} {va:Va} (rs:RS P H s t tab tr) (ok:∀w∈tab,de w.2) (rv:RV P' H v va) (hr:∀n,va= .at (.ref n)->(ah n tab).isSome=true) (hv:yI va) (h:∀H',ai aJ H H'->Q (wx tab va) H'):G (k+7) "_law_unfolded" [.ref s,v] H Q:=by
 cases hq:va.isRef with
 | false=>
  have nr:=rv.noRef hq
  refine m.run 49 rfl rfl rfl (mG nr.set (nr.isin _ (mG nr.set (m.told (vZ m rv hv λH' f=>?_)))))
  exact o8 hq▸h H' f
 | true=>
  clear hv;cases va with
  | arr xs=>exact absurd hq aaE
  | «at» a=>cases a with
   | ref n=>
    refine rv.elim λb w=>(aa7.mp (hr n rfl)).elim λo ho=>?_
    have OG:=ok _ (bo ho)
    have fin:∀H',ai aJ H H'->Q (wK o) H':=λH' f=>jG ho▸h H' f
    refine w.1▸m.run 49 rfl rfl rfl (ad w.2.2 (rs.ins.elim λr e1=>ad e1.1 (hO m rs w.2.2 ho λu ru=>?_)))
    clear ho;cases o with
    | null=>
     subst ru
     exact m.told (hG m (x:= .none) rfl (fin _ .refl))
    | dict d=>exact ru.elim λa z=>z.1▸z.2.at λes e l=>m.told (iA m z.2 OG λH' f=>ad (f.keep z.2.lt e) (fin _ f))
    | stream d b=>exact ru.elim λa z=>z.elim λhd z=>z.1▸ad z.2.1.2 (ad z.2.1.2 (m.told (iA m z.2.2 OG λH' f=>ad (f.fix z.2.1.1 z.2.1.2 rfl) (ad (f.fix z.2.1.1 z.2.1.2 rfl) (fin _ f)))))
   | _=>exact absurd hq aaE
end
namespace So
noncomputable def le (a b:AV):Prop:=qc b a=false
noncomputable def oP (a:AV):Prop:=∃s,a= .str s
theorem PD {a b:AV} (ha:oP a) (hb:oP b) (h:qc a b=true):qc b a=false:=ha.elim λs e=>hb.elim λt e'=>by
 rw [e,e'] at h ⊢
 exact decide_eq_false (List.lt_asymm (of_decide_eq_true h))
theorem trans {a b c:AV} (ha:oP a) (hb:oP b) (hc:oP c) (h1:le a b) (h2:le b c):le a c:=ha.elim λs e=>hb.elim λt e'=>hc.elim λu e2=>by
 rw [e,e'] at h1
 rw [e',e2] at h2
 rw [e,e2]
 exact decide_eq_false (List.le_trans (l₁:=s.toList.map Char.toNat) (of_decide_eq_false h1) (of_decide_eq_false h2))
theorem wn (x:AV) (l:List AV):(w9 x l).Perm (x::l):=by
 induction l with
 | nil=>exact .refl _
 | cons y r ih=>
  show (bif _ then _ else _:List AV).Perm _
  cases qc y x with
  | true=>exact (ih.cons y).trans (.swap ..)
  | false=>exact .refl _
theorem ub (l:List AV):(bt l).Perm l:=by
 induction l with
 | nil=>exact .refl _
 | cons x r ih=>exact (wn x (bt r)).trans (ih.cons x)
theorem toNat_inj {l:List Char}:∀{m:List Char},l.map Char.toNat=m.map Char.toNat->l=m:=by
 induction l with
 | nil=>exact λ{m} h=>(List.map_eq_nil_iff.mp h.symm).symm
 | cons a l ih=>
  intro m h
  cases m with
  | nil=>cases h
  | cons b m=>
   have h:=abf h
   rw [ih h.2,Char.toNat_inj.mp h.1]
theorem NL {a b:AV} (ha:oP a) (hb:oP b) (h1:le a b) (h2:le b a):a=b:=ha.elim λs e=>hb.elim λt e'=>by
 rw [e,e'] at h1 h2 ⊢
 exact congrArg _ (String.toList_inj.mp (toNat_inj (List.le_antisymm (as:=s.toList.map Char.toNat) (of_decide_eq_false h1) (of_decide_eq_false h2))))
structure EP (P:AV->Prop):Prop where
 as:∀{a b},P a->P b->qc a b=true->qc b a=false
 tr:∀{a b c},P a->P b->P c->le a b->le b c->le a c
 an:∀{a b},P a->P b->le a b->le b a->a=b
theorem xD {P:AV->Prop} (O:EP P) {x:AV} (hx:P x) {l:List AV}:(∀y∈l,P y)->l.Pairwise le->(w9 x l).Pairwise le:=by
 induction l with
 | nil=>exact λzz zz=>abu _ _
 | cons y r ih=>
  intro hp h
  have h':=List.pairwise_cons.mp h
  show (bif _ then _ else _:List AV).Pairwise le
  cases q:qc y x with
  | true=>exact List.pairwise_cons.mpr ⟨λz hz=>(aaH.mp ((wn x r).mem_iff.mp hz)).elim (λe=>e▸O.as (hp y (.head _)) hx q) (h'.1 z),ih (λz hz=>hp z (.tail _ hz)) h'.2⟩
  | false=>exact List.pairwise_cons.mpr ⟨λz hz=>(aaH.mp hz).elim (λe=>e▸q) λhz=>O.tr hx (hp y (.head _)) (hp z (.tail _ hz)) q (h'.1 z hz),h⟩
theorem sorted {P:AV->Prop} (O:EP P) {l:List AV}:(∀y∈l,P y)->(bt l).Pairwise le:=by
 induction l with
 | nil=>exact λzz=>.nil
 | cons x r ih=>exact λhp=>xD O (hp x (.head _)) (λy hy=>hp y (.tail _ ((ub r).mem_iff.mp hy))) (ih λy hy=>hp y (.tail _ hy))
theorem Sw:EP oP:=⟨PD,trans,NL⟩
theorem uniq {P:AV->Prop} (O:EP P) {xs ys:List AV} (hi:∀x∈xs,P x) (hp:ys.Perm xs) (hs:ys.Pairwise le):ys=bt xs:=
 List.Perm.eq_of_pairwise (le:=le) (λa b ha hb h1 h2=>O.an (hi a (hp.mem_iff.mp ha)) (hi b ((ub xs).mem_iff.mp hb)) h1 h2) hs (sorted O hi) (hp.trans (ub xs).symm)
theorem A2 {xs ys:List AV} (p:AV->Bool) (hx:∀x∈xs,oP x) (hy:∀x∈ys,oP x) (nx:xs.Nodup) (ny:ys.Nodup) (h:∀x,p x=true->(x∈xs ↔ x∈ys)):(bt xs).filter p=(bt ys).filter p:=by
 refine List.Perm.eq_of_pairwise (le:=le) (λa b ha hb h1 h2=>NL (hx a ((ub xs).mem_iff.mp (abk.mp ha).1)) (hy b ((ub ys).mem_iff.mp (abk.mp hb).1)) h1 h2) ((sorted Sw hx).filter p) ((sorted Sw hy).filter p) ?_
 refine (List.perm_ext_iff_of_nodup (List.filter_sublist.nodup ((ub xs).nodup_iff.mpr nx)) (List.filter_sublist.nodup ((ub ys).nodup_iff.mpr ny))).mpr λa=>?_
 rw [abk,abk,(ub xs).mem_iff,(ub ys).mem_iff]
 exact ⟨λz=>⟨(h a z.2).mp z.1,z.2⟩,λz=>⟨(h a z.2).mpr z.1,z.2⟩⟩
end So
theorem eP {d:Di}:∀x∈bI d,So.oP x:=λx hx=>aq (dD hx) λs zz z=>⟨s,z.1⟩
theorem uG {d:Di} (h:(d.map (·.1)).Nodup):(bI d).Nodup:=by
 exact (show bI d=(d.map (·.1)).map AV.str from aa5.symm)▸h.map _ λzz zz h e=>h (AV.str.inj e)
theorem iL {d:Di} {s:String}:AV.str s∈bI d ↔ (look s d).isSome=true:=
 ⟨λh=>aq (dD h) λt va z=>by rw [AV.str.inj z.1,z.2];rfl,λh=>(aa7.mp h).elim λv e=>aaG.mpr ⟨_,cA e,rfl⟩⟩
noncomputable def S8:List AV:=[.str "Parent",.str "Peer",.str "Type"]
noncomputable def Ae (v:AV):Bool:= !S8.any (i8 v)
theorem lH {s:String} (h:Ae (.str s)=true):s≠"Parent"/\s≠"Peer"/\s≠"Type":=by
 have h:(!(decide (s="Parent")||(decide (s="Peer")||(decide (s="Type")||false))))=true:=h
 rw [Bool.not_eq_true',Bool.or_eq_false_iff,Bool.or_eq_false_iff,Bool.or_eq_false_iff] at h
 exact ⟨of_decide_eq_false h.1,of_decide_eq_false h.2.1,of_decide_eq_false h.2.2.1⟩
noncomputable def oX (d:Di):List AV:=(bt (bI d)).filter Ae
theorem Bm {d:Di} {x:AV} (h:x∈oX d):∃s va,x= .str s/\look s d=some va/\s≠"Parent"/\s≠"Peer"/\s≠"Type":=by
 have h:=abk.mp h
 refine aq (dD (bP.mp h.1)) λs va z=>(bH s va ⟨z.1,z.2,?_⟩)
 have h2:=h.2
 replace h2:=(z.1)▸h2
 exact lH h2
theorem FN {d e:Di} (hd:(d.map (·.1)).Nodup) (he:(e.map (·.1)).Nodup) (h:∀key,key≠"Parent"/\key≠"Peer"/\key≠"Type"->((look key d).isSome=true ↔ (look key e).isSome=true)):oX d=oX e:=
 So.A2 Ae eP eP (uG hd) (uG he) λx hx=>
  ⟨λhm=>(eP x hm).elim λs q=>by rw [q] at hm hx ⊢;exact iL.mpr ((h s (lH hx)).mp (iL.mp hm)),λhm=>(eP x hm).elim λs q=>by rw [q] at hm hx ⊢;exact iL.mpr ((h s (lH hx)).mpr (iL.mp hm))⟩
section
variable {G:Nat->aj} {H H':HP} {Q:KV} {P:Nat->Prop} {Γ:aj} {loc:Loc}
noncomputable def UX:aj->PC:=X.bN (.cmp .cL (.loc "key") (.tup (.cons (.str "Parent") (.cons (.str "Peer") (.o (.str "Type")))))) X.yes
theorem rK {a:Nat} {d:Di} (rd:RD P H a d) (hl:d.length < 64) (h:pK Q H aJ (oX d)):jQ (.ref a) H (D2 (XL.nil Γ) loc (eV (X.loc "key" Γ) (.nm "key") .plain (UX Γ) loc Q)):=by
 have ll:(bt (bI d)).length<=lim:=by rw [dw,dC];exact aaI (gA hl)
 refine rd.sorted hl λH1 b f1 Ku lb eb=>eJ (aH eb) lb id Ae (r:=λv w=>v=w/\w∈bt (bI d)) (L2.diag λx hx=>⟨rfl,hx⟩) ll (λv w H' C N rv f y n=>?_) λH2 c f2 qA lD e2=>h H2 c (f1.tr f2) (aaw f1.le qA) lD (by rw [aby] at e2;exact e2)
 refine (eP w (bP.mp rv.2)).elim λs e=>?_
 rw [rv.1,e]
 rw [e] at y n
 exact Rq (Dt (λq=>y q H' f) λq=>n q H' f)
theorem dO {a b:Nat} {xs:List AV} {Q:Bool->Prop} (e1:H.g a= .list xs) (e2:H.g b= .list xs) (hp:AV.eu xs eG=true) (h:Q true):MN (.ref a) (.ref b) H Q:=ad e1 (ad e2 (.inl ⟨⟨rfl,hp⟩,h⟩))
theorem uW {xs:List AV} (h:∀x∈xs,So.oP x) {n:Nat}:AV.eu xs n=true:=bX λx hx=>(h x hx).elim λs e=>e▸rfl
end
noncomputable def Fc (tbl:List (Int × Int)):List (AV × AV):=tbl.map λx=>(AV.int x.1,pr x.2)
theorem im {n:Int} {tbl:List (Int × Int)}:getD (.int n) (Fc tbl)=(ae n tbl).map pr:=by
 induction tbl with
 | nil=>rfl
 | cons e r ih=>
  show (bif decide (e.1=n) then some (pr e.2) else getD (.int n) (Fc r))=(bif decide (e.1=n) then some e.2 else ae n r).map pr
  cases decide (e.1=n) with
  | true=>rfl
  | false=>exact ih
theorem fb {n:Int} {tbl:List (Int × Int)}:bB (.int n) (Fc tbl):=⟨abC 1,λe he=>(aaG.mp he).elim λx q=>q.2▸rfl⟩
structure Io where
 PM:Nat->Prop
 P:Nat->Prop
 P':Nat->Prop
 ms:Nat
 mt:Nat
 s:Nat
 t:Nat
 p:Nat
 pb:Nat
 pf:Nat
 ff:Nat
 pd:Nat
 i:Nat
 docs:List Doc
 pl:Pl
 aa:List (Int × Ob)
 E:List (Nat × Int)
 D:Doc
 d:Di
 L:Di
 fd:Di
 tr:Di
 q0:Int
structure Iy (c:Io):Prop where
 LM:∀w∈c.aa,de w.2
 ok:∀w∈c.D.tab,de w.2
 fl:c.fd.length < 64
 look:∀key,look key c.fd=look key c.d
 lo:tj c.docs c.pl c.aa c.E c.i c.D c.d c.L
 pg:wL c.D c.d
 Q8:eI c.L
 neg:ae (-1) (fS c.i (cy c.pl))= .none
structure DW (c:Io) (H:HP):Prop where
 zh:RS c.PM H c.ms c.mt c.aa c.tr
 pg:KK c.PM H c.p c.pb c.pf (c.q0,c.L)
 rs:RS c.P H c.s c.t c.D.tab c.D.tr
 rf:RD c.P' H c.ff c.fd
 WP:c.pd < H.n
 RQ:H.g c.pd= .dict (Fc (fS c.i (cy c.pl)))
section
variable {G:Nat->aj} {H H':HP} {Q:KV} {k:Nat} {c:Io}
theorem DW.mn (h:DW c H) (f:ai aJ H H'):DW c H':=⟨h.zh.mn f,h.pg.mono f aV,h.rs.mn f,h.rf.mn f,f.lt h.WP,f.keep h.WP h.RQ⟩
structure QD (c:Io) (loc:Loc):Prop where
 l0:loc "made"= .ref c.ms
 l1:loc "page"= .ref c.p
 l2:loc "shelf"= .ref c.s
 l3:loc "fields"= .ref c.ff
 l4:loc "places"= .ref c.pd
theorem Iy.un (o:Iy c) {key:String} {va:Va} (kk:key≠"Parent"/\key≠"Peer"/\key≠"Type") (e:Pap.look key c.d=some va):∃Jx,Pap.look key c.L=some Jx/\wx c.aa Jx=wx c.D.tab va:=Fy o.lo o.pg kk.1 kk.2.2 kk.2.1 e
noncomputable def SS:SL:= .cons (.set "peer" (.ite (.cmp .isIn (.str "Peer") (.loc "fields")) (.fld (.idx (.loc "fields") (.str "Peer")) "number") (.neg 1))) (.cons (.bA (.cmp .cL (.loc "peer") (.loc "places")) (.o (.ret (.cmp .cL (.str "Peer") (.fld (.loc "page") "fields")))) .nil) (.o (.ret (.and (.cmp .isIn (.str "Peer") (.fld (.loc "page") "fields")) (.cmp .eq (.ay (.idx (.fld (.loc "page") "fields") (.str "Peer")) "pair" .nil) (.idx (.loc "places") (.loc "peer")))))))
theorem CY (m:aQ G) (o:Iy c) (F:DW c H) {loc:Loc} (l:QD c loc) (h:Q (.bool true) H):SS (G (k+1)) loc H (eH Q):=by
 cases Hp:Pap.look "Peer" c.d with
 | none=>
  have hL:=o.lo.TG "Peer" (by decide) (by decide) Hp
  refine ak l.l3 (F.rf.isin ?_)
  rw [o.look,Hp]
  refine ak l.l4 (ad F.RQ ⟨fb,rS (congrArg Option.isSome (im.trans (congrArg _ o.neg))) (ak l.l1 (ad F.pg.at_ (F.pg.rf.isin ?_)))⟩)
  rw [hL];exact h
 | some va=>
  refine (o.pg.mT va Hp).elim λmm z=>?_
  replace Hp:=(z.1)▸Hp
  have hL:=o.lo.mT mm Hp
  have hf:=(o.look "Peer").trans Hp
  refine ak l.l3 (F.rf.isin ?_)
  rw [hf]
  refine ak l.l3 (F.rf.idx hf λu ru=>ru.elim λa w=>w.1▸ad w.2.2 (ak l.l4 (ad F.RQ ⟨fb,?_⟩)))
  cases vn:ae mm (fS c.i (cy c.pl)) with
  | none=>
   replace hL:=(vn)▸hL
   refine rS (congrArg Option.isSome (im.trans (congrArg _ vn))) (ak l.l1 (ad F.pg.at_ (F.pg.rf.isin ?_)))
   rw [hL];exact h
  | some q=>
   rw [vn] at hL
   have g:=im.trans (congrArg (Option.map pr) vn)
   refine rS (congrArg Option.isSome g) (ak l.l1 (ad F.pg.at_ (F.pg.rf.isin ?_)))
   exact (hL)▸ak l.l1 (ad F.pg.at_ (F.pg.rf.idx hL λu ru=>ru.elim λa w=>w.1▸ad w.2.2 (cQ m w.2.2 (ak l.l4 (ad F.RQ ⟨fb,dF g ⟨⟨rfl,rfl⟩,h⟩⟩)))))
theorem uy (m:aQ G) (o:Iy c) (F:DW c H) (h:∀H',ai aJ H H'->Q (.bool true) H'):G (k+8) "_law_page_fits" [.ref c.ms,.ref c.p,.ref c.s,.ref c.ff,.ref c.pd] H Q:=by
 have PN:oX c.L=oX c.fd:=FN o.lo.nd F.rf.nd λkey kk=>by
  rw [o.look]
  cases e:Pap.look key c.d with
  | none=>rw [o.lo.TG key kk.1 kk.2.2 e]
  | some va=>exact (o.un kk e).elim λJx z=>by exact (z.1)▸⟨λzz=>rfl,λzz=>rfl⟩
 refine m.run 50 rfl rfl rfl (rK F.rf o.fl λH1 ka f1 h1 h2 h3=>ad (F.mn f1).pg.at_ (rK (F.mn f1).pg.rf o.Q8.1 λH2 kb f2 g1 g2 g3=>?_))
 rw [PN] at g3
 have fL:=f1.tr f2
 have F2:=F.mn fL
 have e2:=f2.keep h2 h3
 refine dO g3 e2 (uW (λx hx=>eP x (bP.mp (abk.mp hx).1))) (ad F2.pg.at_ (F2.pg.rf.idx o.lo.type λu ru=>m.told (hG m (x:= .name "Page") ru ⟨⟨rfl,rfl⟩,?_⟩)))
 refine dF (aH e2) (Mt id (λ(zz:Unit) loc' H'=>QD c loc'/\ai aJ H2 H') (λzz zz=>()) (λJ=>bC J.2 (f2.lt h2) id ⟨aH e2,rfl⟩) (oX c.fd) (λv hv zz loc' H' C J hC=>?_) (st:=()) ⟨⟨rfl,rfl,rfl,rfl,rfl⟩,.refl⟩ (λloc' H' J=>CY m o (F2.mn J.2) J.1 (h H' (fL.tr J.2))) (aby _).symm)
 have l:=J.1
 have F3:=F2.mn J.2
 refine aq (Bm hv) λkey va z=>?_
 have tZ:=(o.look key).symm.trans z.2.1
 refine (o.un z.2.2 tZ).elim λJx w=>?_
 have there:∀n,va= .at (.ref n)->(ah n c.D.tab).isSome=true:=λn e=>(o.pg.vals key _ tZ z.2.2.2.1 z.2.2.1).elim (λq=>by rw [e] at q;exact nomatch q) λq=>aq q λm' ob q=>by
  replace q:=(e)▸q;cases q.1;rw [q.2.1];rfl
 have E3:∀n,Jx= .at (.ref n)->(ah n c.aa).isSome=true:=λn e=>(o.pg.vals key _ tZ z.2.2.2.1 z.2.2.1).elim (λq=>by
  have:=o.lo.val key va z.2.2.1 z.2.2.2.2 tZ q
  rw [w.1,e] at this
  rw [<-aay this] at q;exact nomatch q) λq=>aq q λm' ob q=>by
  rw [q.1] at tZ
  refine aq (o.lo.ref key m' z.2.2.1 z.2.2.2.2 tZ q.2.2.1) λk o' y=>?_
  rw [w.1,e] at y
  cases y.1
  rw [y.2.2.2];rfl
 refine z.1▸ak l.l0 (ak l.l1 (ad F3.pg.at_ (F3.pg.rf.idx w.1 λu ru=>?_)))
 refine (jd m F3.zh o.LM ru E3 (o.Q8.2 _ (cA w.1)).2 λH4 f4=>?_)
 have F4:=F3.mn f4
 refine ak l.l2 (ak l.l3 (F4.rf.idx z.2.1 λu ru=>(jd m F4.rs o.ok ru there (o.pg.ok.2 _ (cA tZ)).2 λH5 f5=>?_)))
 exact (Fs E3).eq w.2 (hC _ H5 ⟨⟨l.l0,l.l1,l.l2,l.l3,l.l4⟩,(J.2.tr f4).tr f5⟩)
end
structure AJ (P:Nat->Prop) (docs:List Doc) (H:HP) (s t rf ff:Nat) (D:Doc) (fd:Di) (x:Nat × (Int × Di)):Prop where
 doc:docs[x.1]? =some D
 rs:RS P H s t D.tab D.tr
 WY:rf < H.n
 P8:H.g rf=cH x.2.1
 rd:RD P H ff fd
 fl:fd.length < 64
 look:∀key,look key fd=look key x.2.2
noncomputable def zJ (i s rf ff:Nat):AV:= .tup [.int i,.ref s,.ref rf,.ref ff]
noncomputable def dN (P:Nat->Prop) (docs:List Doc) (H:HP) (v:AV) (x:Nat × (Int × Di)):Prop:=∃s t rf ff D fd,v=zJ x.1 s rf ff/\AJ P docs H s t rf ff D fd x
theorem AJ.mn {P:Nat->Prop} {docs:List Doc} {H H':HP} {s t rf ff:Nat} {D:Doc} {fd:Di} {x:Nat × (Int × Di)} (f:ai aJ H H') (r:AJ P docs H s t rf ff D fd x):AJ P docs H' s t rf ff D fd x:=⟨r.doc,r.rs.mn f,f.lt r.WY,f.fix r.WY r.P8 rfl,r.rd.mn f,r.fl,r.look⟩
theorem dN.mn {P:Nat->Prop} {docs:List Doc} {H H':HP} (f:ai aJ H H') {v:AV} {x:Nat × (Int × Di)} (r:dN P docs H v x):dN P docs H' v x:=r.imp λzz r=>r.imp λzz r=>r.imp λzz r=>r.imp λzz r=>r.imp λzz r=>r.imp λzz r=>⟨r.1,r.2.mn f⟩
theorem Ja {a b:List (Int × Int)}:Fc (a++b)=Fc a++Fc b:=aaL
theorem CF {n q:Int} {tbl:List (Int × Int)} (h:ae n tbl= .none):bS (.int n) (pr q) (Fc tbl)=Fc (tbl++[(n,q)]):=(dL λhm=>by
 have:=getD_some.mpr hm
 rw [im,h] at this
 exact absurd this aaE).trans (by rw [Ja];rfl)
structure O3 where
 P:Nat->Prop
 PR:Nat->Prop
 H:HP
 wl:Nat
 ra:Nat
 b:Nat
 ms:Nat
 mt:Nat
 docs:List Doc
 pl:Pl
 aa:List (Int × Ob)
 E:List (Nat × Int)
 ws:List AV
 rows:List AV
structure EQ (c:O3):Prop where
 JI:c.wl < c.H.n
 ew:c.H.g c.wl= .list c.ws
 hw:L2 (dN c.P c.docs c.H) c.ws c.pl
 Hk:c.ra < c.H.n
 er:c.H.g c.ra= .list c.rows
 hr:L2 (dV c.PR c.H) c.rows (qC c.pl c.E)
 hb:c.H.n<=c.b
 hd:c.docs.length<=2
 gx:c.pl.length<=60
 zh:RS c.PR c.H c.ms c.mt c.aa Mq
 ok:ft c.docs c.pl c.aa c.E
 hp:fB c.docs c.pl
 obs:∀D∈c.docs,∀w∈D.tab,de w.2
 neg:∀D∈c.docs,D.bs (-1)=false
noncomputable def NZ (b:Nat):List AV:=[.ref b,.ref (b+1)]
theorem sw {b i:Nat} (h:i < 2):(NZ b)[i]? =some (.ref (b+i)):=match i,h with
 | 0,_=>rfl
 | 1,_=>rfl
 | i+2,h=>absurd h (aaP.mpr (abn 2 i))
structure kF (c:O3) (T:Nat->List (Int × Int)) (loc:Loc) (H:HP):Prop where
 aD:ai aJ c.H H
 Aj:c.b+2 < H.n
 Gj:H.g (c.b+2)= .list (NZ c.b)
 ed:∀i,i < 2->H.g (c.b+i)= .dict (Fc (T i))
 l0:loc "made"= .ref c.ms
 l1:loc "row"= .ref c.ra
 l2:loc "wanted"= .ref c.wl
 l3:loc "places"= .ref (c.b+2)
noncomputable def CG:SL:= .cons (.bM ["which","shelf","reference","fields"] (.idx (.loc "wanted") (.loc "at"))) (.o (.bA (.cmp .cL (.fld (.loc "reference") "number") (.idx (.loc "places") (.loc "which"))) (.o (.b8 (.idx (.loc "places") (.loc "which")) (.fld (.loc "reference") "number") (.ay (.fld (.idx (.loc "row") (.loc "at")) "reference") "pair" .nil))) .nil))
noncomputable def DQ:SL:= .cons (.bM ["which","shelf","reference","fields"] (.idx (.loc "wanted") (.loc "at"))) (.cons (.bA (.cmp .ne (.ay (.idx (.fld (.idx (.loc "row") (.loc "at")) "fields") (.str "Parent")) "pair" .nil) (.ay (.idx (.ay (.loc "made") "root" .nil) (.str "Pages")) "pair" .nil)) (.o (.ret (.bool false))) .nil) (.o (.bA (.not (.call "_law_page_fits" (.cons (.loc "made") (.cons (.idx (.loc "row") (.loc "at")) (.cons (.loc "shelf") (.cons (.loc "fields") (.o (.idx (.loc "places") (.loc "which"))))))))) (.o (.ret (.bool false))) .nil)))
noncomputable def o0:XL:= .o (.prim "len" (.o (.loc "row")))
section
variable {G:Nat->aj} {H H':HP} {QS:KS} {k:Nat} {c:O3} {loc:Loc}
theorem pA {pl:Pl} {E:List (Nat × Int)}:(qC pl E).length=pl.length:=(aaB _).trans List.length_range
theorem zS {pl:Pl} {E:List (Nat × Int)} {j:Nat} (h:j < pl.length):(qC pl E)[j]? =some (3+(j:Int),mD pl E j):=by rw [qC,abc,List.getElem?_range h];rfl
theorem vp {T:Nat->List (Int × Int)} {b:SL} (ok:EQ c) (I:kF c T loc H) (J:Nat->Loc->HP->Prop) (h0:J 0 loc H) (step:∀j,j < c.pl.length->∀loc H (C:KS),J j loc H->(∀loc' H',J (j+1) loc' H'->C .next loc' H')->b (G k) (loc.upd "at" (.int j)) H C) (hQ:∀loc H,J c.pl.length loc H->QS .next loc H):
  S.bW (.nm "at") .aE o0 b (G k) loc H QS:=by
 refine ak I.l1 (ad (I.aD.keep ok.Hk ok.er) ?_)
 refine (?_:w4 (.nm "at") .aE (b (G k)) loc QS [.int c.rows.length] H)
 rw [ok.hr.len,pA]
 exact Dj (aaw ok.gx (by decide)) J (λj hj loc H C h hC zz=>step j hj loc H C h hC) h0 hQ
theorem vP (m:aQ G) (ok:EQ c) (I:kF c (λi=>fS i []) loc H) (h:∀H' loc',kF c (λi=>fS i (cy c.pl)) loc' H'->QS .next loc' H'):S.bW (.nm "at") .aE o0 CG (G (k+1)) loc H QS:=by
 have Uj:(cy c.pl).length=c.pl.length:=aaB _
 refine vp ok I (λj=>kF c λi=>fS i ((cy c.pl).take j)) I (λj hj loc' H' C I hC=>?_) λloc' H' I=>h H' loc' (by
  have e:(cy c.pl).take c.pl.length=cy c.pl:=Uj▸List.take_length
  replace I:=(e)▸I;exact I)
 have Uf:c.pl[j]? =some c.pl[j]:=aaR hj
 generalize c.pl[j]=x at Uf
 obtain ⟨i,n,d⟩:=x
 refine (ok.hw.get Uf).elim λv q=>hY q.2 λs t rf ff D fd z=>?_
 have w:=z.2.mn I.aD
 have i2:i < 2:=aax (aaZ.mp w.doc).1 ok.hd
 have XU:(cy c.pl)[j]? =some (i,n):=by unfold cy;rw [abc,Uf];rfl
 have step:∀i',fS i' ((cy c.pl).take (j+1))=if i=i' then ie n (3+(j:Int)) (fS i' ((cy c.pl).take j)) else fS i' ((cy c.pl).take j):=λi'=>by
  rw [jp XU,f0,List.length_take,Nat.min_eq_left ((Uj)▸aaI hj)]
 have ed:=I.ed i i2
 refine ak I.l2 (ad (I.aD.keep ok.JI ok.ew) (dF (v:=zJ i s rf ff) (q.1.trans (congrArg some z.1)) (ad w.P8 (ak I.l3 (ad I.Gj (dF (v:=AV.ref (c.b+i)) (sw i2) (ad ed ⟨fb,rS (congrArg Option.isSome im) ?_⟩)))))))
 cases vn:ae n (fS i ((cy c.pl).take j)) with
 | some x=>
  refine hC _ H' ⟨I.aD,I.Aj,I.Gj,λi' h2=>(I.ed i' h2).trans (congrArg (λt=>AO.dict (Fc t)) ?_),I.l0,I.l1,I.l2,I.l3⟩
  rw [step]
  by_cases e:i=i'
  .rw [if_pos e,<-e,ie,vn];rfl
  .rw [if_neg e]
 | none=>
  refine (ok.hr.get (zS hj)).elim λpv y=>bj y.2 λpa pb pf u=>?_
  have pg:=u.2.mono I.aD aV
  refine ak I.l1 (ad (I.aD.keep ok.Hk ok.er) (dF (v:=AV.ref pa) (y.1.trans (congrArg some u.1)) (ad pg.at_ (ad pg.Gn (cQ m pg.Gn (ak I.l3 (ad I.Gj (dF (v:=AV.ref (c.b+i)) (sw i2) (ad w.P8 (ad ed ⟨fb,?_,ng ed λH2 f2 n2 e2=>?_⟩))))))))))
  .refine aaz (aaw (aaS (aaB _)) (aaw tz (aaw (List.length_take_le' ..) (aaw (aaS Uj) ok.gx)))) (by decide)
  .refine hC _ H2 ⟨I.aD.up f2 (aaw ok.hb (aaM ..)),n2▸I.Aj,f2.ne I.Aj I.Gj λe=>aaN i2 (Nat.add_left_cancel e),λi' h2=>?_,I.l0,I.l1,I.l2,I.l3⟩
   rw [step]
   by_cases e:i=i'
   .rw [if_pos e,<-e,ie,vn]
    exact e2.trans (congrArg AO.dict (CF vn))
   .rw [if_neg e]
    exact f2.ne (aaA (abr h2 _) I.Aj) (I.ed i' h2) λq=>e (Nat.add_left_cancel q).symm
theorem B8 (m:aQ G) (ok:EQ c) (I:kF c (λi=>fS i (cy c.pl)) loc H) (h:∀H' loc',kF c (λi=>fS i (cy c.pl)) loc' H'->QS .next loc' H'):S.bW (.nm "at") .aE o0 DQ (G (k+8)) loc H QS:=by
 refine vp ok I (λzz=>kF c λi=>fS i (cy c.pl)) I (λj hj loc' H' C I hC=>?_) λloc' H' I=>h H' loc' I
 refine (gz ok.ok ok.hp hj).elim λi z=>z.elim λn z=>z.elim λd z=>z.elim λD0 p=>(ok.hw.get p.at_).elim λv q=>q.2.elim λs z=>z.elim λt z=>z.elim λrf z=>z.elim λff z=>z.elim λD z=>z.elim λfd z=>?_
 have w:=z.2.mn I.aD
 cases p.doc.symm.trans w.doc
 have i2:i < 2:=aax (aaZ.mp w.doc).1 ok.hd
 have Vw:=aaO p.doc
 have Q8:eI (mD c.pl c.E j):=ok.ok.Jv _ (bo p.tb)
 have zh:=ok.zh.mn I.aD
 refine (ok.hr.get (zS hj)).elim λpv y=>y.2.elim λpa u=>u.elim λpb u=>u.elim λpf u=>?_
 have pg:=u.2.mono I.aD aV
 have er:=I.aD.keep ok.Hk ok.er
 have Q2:c.rows[j]? =some (.ref pa):=y.1.trans (congrArg some u.1)
 refine ak I.l2 (ad (I.aD.keep ok.JI ok.ew) (dF (v:=zJ i s rf ff) (q.1.trans (congrArg some z.1)) (ak I.l1 (ad er (dF (v:=AV.ref pa) Q2 (ad pg.at_ (pg.rf.idx p.lo.parent λu1 r1=>r1.elim λrb UL=>UL.1▸ad UL.2.2 (cQ m UL.2.2 (ak I.l0 (zh.ins.elim λr' ZY=>ad ZY.1 (sY m zh aY ok.ok.root λca M0=>M0.idx (key:="Pages") (va:= .at (.ref 2)) rfl λu2 r2=>r2.elim λrc S0=>S0.1▸ad S0.2.2 (cQ m S0.2.2 ⟨⟨rfl,rfl⟩,?_⟩))))))))))))
 refine ak I.l0 (ak I.l1 (ad er (dF (v:=AV.ref pa) Q2 (ak I.l3 (ad I.Gj (dF (v:=AV.ref (c.b+i)) (sw i2) (uy m (c:=⟨c.PR,c.P,c.P,c.ms,c.mt,s,t,pa,pb,pf,ff,c.b+i,i,c.docs,c.pl,c.aa,c.E,D0,d,mD c.pl c.E j,fd,Mq,3+(j:Int)⟩) ⟨ok.ok.Jv,ok.obs D0 Vw,w.fl,w.look,p.lo,p.pg,Q8,sB ok.hp p.doc (ok.neg D0 Vw)⟩ ⟨zh,pg,w.rs,w.rd,aaA (abr i2 _) I.Aj,I.ed i i2⟩ λH2 f2=>hC _ H2 ⟨I.aD.tr f2,f2.lt I.Aj,f2.keep I.Aj I.Gj,λi' h2=>f2.keep (aaA (abr h2 _) I.Aj) (I.ed i' h2),I.l0,I.l1,I.l2,I.l3⟩)))))))
end
theorem u8 {k v:AV} {es:List (AV × AV)} (h:k∈es.map (·.1)):(bS k v es).length=es.length:=by
 induction es with
 | nil=>cases h
 | cons e r ih=>
  by_cases q:e.1=k
  .rw [show bS k v (e::r)=(k,v)::r from q▸lu];rfl
  .rw [show bS k v (e::r)=_ from iF q,aa2,ih ((aaH.mp h).resolve_left (abm q))];rfl
theorem xc {α:Type} (f g:α->AV) (l:List α):(∀a∈l,∀b∈l,f a=f b ↔ g a=g b)->(b5 (l.map f)).length=(b5 (l.map g)).length:=by
 refine fY (p:=λl=>(∀a∈l,∀b∈l,f a=f b ↔ g a=g b)->(b5 (l.map f)).length=(b5 (l.map g)).length) (λzz=>rfl) (λl x ih h=>?_) l
 have ih:=ih λa ha b hb=>h a (aa3 _ ha) b (aa3 _ hb)
 have key:f x∈(b5 (l.map f)).map (·.1) ↔ g x∈(b5 (l.map g)).map (·.1):=by
  rw [cu,cu,aaG,aaG]
  exact exists_congr λy=>and_congr_right λhy=>h y (aa3 _ hy) x (aaT _ (.head _))
 rw [aaL,aaL,List.map_singleton,List.map_singleton,fZ,fZ]
 refine (Classical.em (f x∈(b5 (l.map f)).map (·.1))).elim (λq=>?_) λq=>?_
 .rw [u8 q,u8 (key.mp q),ih]
 .rw [dL q,dL λz=>q (key.mpr z),aaD,aaD,ih];rfl
theorem Ca {ks:List AV} (h:(b5 ks).length=1) {a b:AV} (ha:a∈ks) (hb:b∈ks):a=b:=by
 have h1:=(cu ks a).mpr ha
 have h2:=(cu ks b).mpr hb
 obtain ⟨x,q⟩:=List.length_eq_one_iff.mp h
 rw [q] at h1 h2
 exact (aaK.mp h1).trans (aaK.mp h2).symm
theorem Ex:bt (bI sR)=[.str "Pages",.str "Type"]:=rfl
theorem yp:bt [.str "Type",.str "Kids",.str "Count"]=[.str "Count",.str "Kids",.str "Type"]:=rfl
noncomputable def Vk:Va->Int
 | .at (.ref q)=>q
 | _=>0
noncomputable def cq (L:Di):Int:=((look "Contents" L).map Vk).getD 0
noncomputable def Ra:Option Ob->String
 | some (.stream [] _)=>tA
 | _=>tB
noncomputable def Qy (aa:List (Int × Ob)) (L:Di):String:=Ra (ah (cq L) aa)
theorem Ww:tA≠tB:=by decide+kernel
section
variable {docs:List Doc} {pl:Pl} {aa:List (Int × Ob)} {E:List (Nat × Int)}
structure LZ (pl:Pl) (aa:List (Int × Ob)) (E:List (Nat × Int)) (j i k:Nat) (m:Int):Prop where
 look:look "Contents" (mD pl E j)=some (.at (.ref (cq (mD pl E j))))
 eq:cq (mD pl E j)=3+(pl.length:Int)+k
 ent:E[k]? =some (i,m)
 is:(m=3/\ah (cq (mD pl E j)) aa=some KE)\/(m=4/\ah (cq (mD pl E j)) aa=some L6)
theorem sq {j i:Nat} {n:Int} {d:Di} {D:Doc} (p:tP docs pl aa E j i n d D) (hb:D.bs 3=false/\D.bs 4=false):∃k m,LZ pl aa E j i k m:=by
 have go:∀{m:Int} {o:Ob},look "Contents" d=some (.at (.ref m))->D.bs m=false->ah m D.tab=some o->∃k:Nat,(look "Contents" (mD pl E j)=some (.at (.ref (cq (mD pl E j))))/\cq (mD pl E j)=3+(pl.length:Int)+k)/\E[k]? =some (i,m)/\ah (cq (mD pl E j)) aa=some o:=λe hm ho=>by
  refine aq (p.lo.ref "Contents" _ (by decide) (by decide) e hm) λk o' z=>⟨k,?_⟩
  have q:cq (mD pl E j)=3+(pl.length:Int)+k:=by unfold cq;rw [z.1];rfl
  rw [q]
  obtain rfl:=aay (z.2.2.1.symm.trans ho)
  exact ⟨⟨z.1,rfl⟩,z.2.1,z.2.2.2⟩
 exact p.pg.cont.elim (λc=>(go c.1 hb.1 c.2).elim λk z=>⟨k,3,z.1.1,z.1.2,z.2.1,.inl ⟨rfl,z.2.2⟩⟩) λc=>(go c.1 hb.2 c.2).elim λk z=>⟨k,4,z.1.1,z.1.2,z.2.1,.inr ⟨rfl,z.2.2⟩⟩
theorem Cc (ok:ft docs pl aa E) (hp:fB docs pl) (hb:∀D∈docs,D.bs 3=false/\D.bs 4=false) (one:(b5 (pl.map λx=>AV.int x.1)).length=1):
  (b5 ((qC pl E).map λx=>AV.int (cq x.2))).length=(b5 ((qC pl E).map λx=>AV.str (Qy aa x.2))).length:=by
 refine xc _ _ _ λa ha b UC=>⟨λe=>congrArg (λq=>AV.str (Ra (ah q aa))) (AV.int.inj e),λe=>?_⟩
 have e:=AV.str.inj e
 refine (aaG.mp ha).elim λj z=>(aaG.mp UC).elim λj' z'=>?_
 refine bF (gz ok hp (List.mem_range.mp z.1)) λi n d D p=>?_
 refine bF (gz ok hp (List.mem_range.mp z'.1)) λi' n' d' D' p'=>?_
 refine aq (sq p (hb D (aaO p.doc))) λk m w=>aq (sq p' (hb D' (aaO p'.doc))) λk' m' w'=>?_
 rw [<-z.2,<-z'.2] at e ⊢
 have e:Ra (ah (cq (mD pl E j)) aa)=Ra (ah (cq (mD pl E j')) aa):=e
 have mm:m=m':=by
  rcases w.is with a | a<;>rcases w'.is with b | b<;>rw [a.2,b.2] at e
  .exact a.1.trans b.1.symm
  .exact absurd e Ww
  .exact absurd e.symm Ww
  .exact a.1.trans b.1.symm
 have h1:=iI (q:=0) ok.nd w.ent
 rw [(show i=i' from Int.ofNat.inj (AV.int.inj (Ca one (aaG.mpr ⟨_,aaO p.at_,rfl⟩) (aaG.mpr ⟨_,aaO p'.at_,rfl⟩)))),mm] at h1
 show AV.int (cq (mD pl E j))= .int (cq (mD pl E j'))
 rw [w.eq,w'.eq,Int.add_left_cancel (aay (h1.symm.trans (iI (q:=0) ok.nd w'.ent)))]
end
noncomputable def QW:SL:= .cons (.set "contents" (.prim "dict" (.o (.aC (.tup (.cons (.prim "repr" (.o (.call "_law_unfolded" (.cons (.loc "made") (.o (.idx (.fld (.loc "page") "fields") (.str "Contents"))))))) (.o (.bool true)))) (.nm "page") .plain (.o (.loc "row")) X.yes)))) (.cons (.set "numbers" (.prim "dict" (.o (.aC (.tup (.cons (.fld (.idx (.fld (.loc "page") "fields") (.str "Contents")) "number") (.o (.bool true)))) (.nm "page") .plain (.o (.loc "row")) X.yes)))) (.o (.ret (.or (.cmp .ne (.prim "len" (.o (.prim "dict" (.o (.aC (.tup (.cons (.idx (.loc "shelf_at") (.int 0)) (.o (.bool true)))) (.nm "shelf_at") .plain (.o (.loc "wanted")) X.yes))))) (.int 1)) (.cmp .eq (.prim "len" (.o (.loc "numbers"))) (.prim "len" (.o (.loc "contents"))))))))
section
variable {G:Nat->aj} {H H':HP} {Q:KV} {QS:KS} {k:Nat} {c:O3} {loc:Loc}
theorem Kh (m:aQ G) (ok:EQ c) {T:Nat->List (Int × Int)} (I:kF c T loc H) (hb:∀D∈c.docs,D.bs 3=false/\D.bs 4=false) (h:∀H',ai aJ H H'->Q (.bool true) H'):QW (G (k+8)) loc H (eH Q):=by
 have er:=I.aD.keep ok.Hk ok.er
 have Hk:=I.aD.lt ok.Hk
 have rl:c.rows.length<=lim:=by rw [ok.hr.len,pA];exact aaw ok.gx (by decide)
 have at_:∀x∈qC c.pl c.E,∃o,look "Contents" x.2=some (.at (.ref (cq x.2)))/\ah (cq x.2) c.aa=some o/\∀{Q:KV} {H:HP},Q (.str (Qy c.aa x.2)) H->G (k+8) "repr" [wK o] H Q:=λx hx=>(aaG.mp hx).elim λj z=>bF (gz ok.ok ok.hp (List.mem_range.mp z.1)) λi n d D p=>aq (sq p (hb D (aaO p.doc))) λkk mm w=>by
  rw [<-z.2]
  refine w.is.elim (λa=>⟨KE,w.look,a.2,λq=>m.rA ?_⟩) λa=>⟨L6,w.look,a.2,λq=>m.rB ?_⟩
  .unfold Qy at q;rw [a.2] at q;exact q
  .unfold Qy at q;rw [a.2] at q;exact q
 refine ak I.l1 (dr (aH er) Hk (λx:Int × Di=>.str (Qy c.aa x.2)) (ok.hr.imp λzz zz r=>dV.mn I.aD r).wm rl (lv (n:=1) (λzz=>rfl) (by decide)) (λv x H' C N rv f y=>?_) λH1 ca f1 Ku qc e1=>?_)
 .refine bj rv.1 λpa pb pf z=>(at_ x rv.2).elim λo w=>?_
  have pg:=z.2.mono f aV
  refine z.1▸ak I.l0 (ad pg.at_ (pg.rf.idx w.1 λu ru=>jd m ((ok.zh.mn I.aD).mn f) ok.ok.Jv ru (λn e=>by cases e;rw [w.2.1];rfl) trivial λH2 f2=>?_))
  exact (jG w.2.1)▸w.2.2 (y H2 (f.tr f2))
 refine ak I.l1 (dr (aH (f1.keep Hk er)) (f1.lt Hk) (λx:Int × Di=>.int (cq x.2)) (ok.hr.imp λzz zz r=>dV.mn (I.aD.tr f1) r).wm rl (lv (n:=2) (λzz=>rfl) (by decide)) (λv x H' C N rv f y=>?_) λH2 na f2 qA lD e2=>?_)
 .refine bj rv.1 λpa pb pf z=>(at_ x rv.2).elim λo w=>?_
  have pg:=z.2.mono f aV
  exact z.1▸ad pg.at_ (pg.rf.idx w.1 λu ru=>ru.elim λa q=>q.1▸ad q.2.2 (y H' f))
 have fL:=(I.aD.tr f1).tr f2
 refine ak I.l2 (dr (aH (fL.keep ok.JI ok.ew)) (fL.lt ok.JI) (λx:Nat × (Int × Di)=>.int x.1) ok.hw (by rw [ok.hw.len];exact aaw ok.gx (by decide)) (lv (n:=2) (λzz=>rfl) (by decide)) (λv x H' C N rv f y=>?_) λH3 wa f3 A1 B9 e3=>?_)
 .exact hY rv λs t rf ff D fd z=>z.1▸y H' f
 have fin:=h H3 ((f1.tr f2).tr f3)
 refine ad e3 (yO (λone=>?_) λzz=>fin)
 exact ad (f3.keep lD e2) (ad ((f2.tr f3).keep qc e1) (MJ (congrArg (λ(n:Nat)=>(n:Int)) (Cc ok.ok ok.hp hb (Int.ofNat.inj one))) fin))
end
noncomputable def OS:At->AV
 | .ref n=>pr n
 | _=>.none
structure Yk (P PM:Nat->Prop) (H:HP) (ms mt wl:Nat) (docs:List Doc) (pl:Pl) (aa:List (Int × Ob)) (E:List (Nat × Int)) (ws:List AV):Prop where
 zh:RS PM H ms mt aa Mq
 ok:ft docs pl aa E
 hp:fB docs pl
 obs:∀D∈docs,∀w∈D.tab,de w.2
 neg:∀D∈docs,D.bs (-1)=false
 hb:∀D∈docs,D.bs 3=false/\D.bs 4=false
 hd:docs.length<=2
 gx:pl.length<=60
 JI:wl < H.n
 ew:H.g wl= .list ws
 hw:L2 (dN P docs H) ws pl
section
variable {G:Nat->aj} {H H':HP} {Q:KV} {QS:KS} {k:Nat} {c:O3} {loc:Loc} {P PM:Nat->Prop}
theorem B4 {pl:Pl} {E:List (Nat × Int)}:((cY pl.length).map At.ref).map OS=(qC pl E).map λx=>pr x.1:=by
 delta cY qC
 rw [aa5,aa5,aa5];rfl
theorem AR {xs:List (Int × Di)}:AV.eu (xs.map λx=>pr x.1) eG=true:=bX λv hv=>(aaG.mp hv).elim λx z=>z.2▸rfl
noncomputable def QE:SL:= .cons (.bW (.nm "at") .aE o0 CG) (.cons (.bW (.nm "at") .aE o0 DQ) QW)
theorem HO (m:aQ G) (ok:EQ c) (I:kF c (λi=>fS i []) loc H) (hb:∀D∈c.docs,D.bs 3=false/\D.bs 4=false) (h:∀H',ai aJ c.H H'->Q (.bool true) H'):QE (G (k+8)) loc H (eH Q):=
 vP m ok I λZ8 loc I1=>B8 m ok I1 λH15 loc I2=>Kh m ok I2 hb λSh MY=>h Sh (I2.aD.tr MY)
theorem wA (m:aQ G) {ms mt wl:Nat} {docs:List Doc} {pl:Pl} {aa:List (Int × Ob)} {E:List (Nat × Int)} {ws:List AV} (B:Yk P PM H ms mt wl docs pl aa E ws) (h:∀H',ai aJ H H'->Q (.bool true) H'):G (k+9) "_law_made_fits" [.ref ms,.ref wl] H Q:=by
 refine m.run 51 rfl rfl rfl (kI m B.zh (A5 B.ok B.hp B.gx) B.ok.Jv λH1 ra vs f1 h1 h2 h3 h4=>?_)
 replace h4:=(xQ)▸h4
 have vl:vs.length=pl.length:=h4.len.trans pA
 have Cp:RS (bf PM H.n) H1 ms mt aa Mq:=B.zh.mono f1 (λzz zz h=>⟨id,.inl h⟩) id id
 refine Cp.ins.elim λr e1=>ad e1.1 (ad e1.1 (sY m Cp aY B.ok.root λca M0=>tN m Cp M0 (key:="Pages") (n:=2) rfl B.ok.node λu ru=>ru.elim λna q=>q.1▸ ?_))
 have rn:=q.2
 refine ad h3 (ad (f1.keep B.JI B.ew) (MJ (congrArg (λ(n:Nat)=>(n:Int)) (vl.trans B.hw.len.symm)) (ad e1.1 (sY m Cp aY B.ok.root λcb YS=>YS.sorted (d:=sR) (by decide) λH2 b f2 qA lD e2=>cN λH3 f3 n3 e3=>?_))))
 rw [Ex] at e2
 refine dO (f3.keep lD e2) e3 rfl ?_
 have mK:=f2.tr f3
 refine (Cp.mn mK).ins.elim λr' VA=>ad VA.1 (VA.2.sorted (by decide) λH4 b4 f4 R9 nz e4=>cN λH5 f5 n5 e5=>dO (f5.keep nz e4) e5 rfl ?_)
 have OU:=(mK.tr f4).tr f5
 refine (rn.mn OU).sorted (by decide:3 < 64) λH6 b6 f6 Z2 Yj e6=>cN λH7 f7 n7 e7=>?_
 refine dO (f7.keep Yj (e6.trans (congrArg AO.list yp))) e7 rfl ?_
 have Q0:=(OU.tr f6).tr f7
 refine (rn.mn Q0).idx (key:="Count") (va:= .at (.int pl.length)) rfl λu ru=>(show u= .int pl.length from ru)▸ad (Q0.keep h2 h3) (MJ (congrArg (λ(n:Nat)=>(n:Int)) vl.symm) ?_)
 refine u6 m (Cp.mn Q0) B.ok.Jv ⟨by decide,λx hx=>aaK.mp hx▸⟨nofun,trivial⟩⟩ (λC ui n hn=>F9 B.ok B.hp C ui n hn) λH8 ua f8 Z4 XB e8=>cN λH9 f9 n9 e9=>dO (f9.keep XB e8) e9 rfl ?_
 have Xe:=(Q0.tr f8).tr f9
 refine (rn.mn Xe).idx (key:="Kids") (va:= .arr ((cY pl.length).map At.ref)) rfl λu ru=>aq ru λka kvs z=>z.1▸ ?_
 refine dX (aH z.2.2.1) z.2.1.1 OS z.2.2.2.wm (by rw [z.2.2.2.len,aaB,gC];exact aaw B.gx (by decide)) (λv a H' C N rv f y=>?_) λHA a10 R0 XC lt10 Ud=>?_
 .refine (aaG.mp rv.2).elim λq w=>?_
  rw [<-w.2] at rv y
  exact (rv.1.mono f).elim λb w=>w.1▸ad w.2.2 (cQ m w.2.2 (y H' f))
 have RM:=Xe.tr R0
 refine dX (aH (RM.keep h2 h3)) (RM.lt h2) (λx:Int × Di=>pr x.1) (h4.imp λzz zz r=>dV.mn RM r) (vl▸aaw B.gx (by decide)) (λv x H' C N rv f y=>?_) λHB a11 WS X2 Yu Zb=>?_
 .exact bj (dV.mn f rv) λpa pb pf w=>w.1▸ad w.2.at_ (ad w.2.Gn (cQ m w.2.Gn (y H' f)))
 refine dO (WS.keep lt10 (Ud.trans (congrArg AO.list B4))) Zb AR ?_
 have Wu:=RM.tr WS
 refine cN λHC oW qP U8=>cN λHD mK Sa T6=>cN λHE MU XJ Zo=>?_
 have nD:HD.n=HB.n+2:=by rw [Sa,qP]
 have Nw:HB.n < HC.n:=qP▸aaC _
 have Zw:HB.n+1 < HD.n:=nD▸aaC _
 refine HO m (c:=⟨P,bf PM H.n,H1,wl,ra,HB.n,ms,mt,docs,pl,aa,E,ws,vs⟩) (⟨f1.lt B.JI,f1.keep B.JI B.ew,B.hw.imp λzz zz r=>r.mn f1,h2,h3,h4,Wu.le,B.hd,B.gx,Cp,B.ok,B.hp,B.obs,B.neg⟩) ⟨Wu.tr ((oW.tr mK).tr MU),?_,?_,λi hi=>?_,rfl,rfl,rfl,congrArg AV.ref nD⟩ B.hb λSh MY=>h Sh (f1.tr MY)
 .show HB.n+2 < HE.n
  rw [XJ,nD];exact aaC _
 .show HE.g (HB.n+2)=_
  rw [<-nD,Zo,qP];rfl
 .match i,hi with
  | 0,_=>exact (mK.tr MU).keep Nw U8
  | 1,_=>exact MU.keep Zw (qP▸T6)
  | i+2,hi=>exact absurd hi (aaP.mpr (abn 2 i))
end
noncomputable def aO (H:HP) (p B:Nat):Prop:=p < H.n/\∃N c:Nat,H.g p= .list [.int N,.int c]/\c<=B
section
variable {G:Nat->aj} {H H':HP} {Q:KV} {QS:KS} {k:Nat} {S:Nat->Prop} {loc:Loc}
theorem aO.mono {p B:Nat} (f:ai S H H') (hs:¬S p) (h:aO H p B):aO H' p B:=⟨f.lt h.1,h.2.imp λzz r=>r.imp λzz r=>⟨f.at h.1 hs r.1,r.2⟩⟩
theorem aO.up {p B B':Nat} (h:aO H p B) (hb:B<=B'):aO H p B':=⟨h.1,h.2.imp λzz r=>r.imp λzz r=>⟨r.1,aaw r.2 hb⟩⟩
noncomputable def PW (H:HP) (p B M:Nat) (Q:KV):Prop:=∀H' (r:Nat),ai (atS p) H H'->H'.n=H.n->aO H' p (B+1)->r < M->Q (.int r) H'
theorem ET {a b:Nat}:((a:Int).fdiv b)=((a / b:Nat):Int):=(Int.fdiv_eq_ediv_of_nonneg _ (aa0 b)).trans (Int.natCast_ediv a b).symm
theorem uY {a b:Nat}:((a:Int).fmod b)=((a % b:Nat):Int):=(Int.fmod_eq_emod_of_nonneg _ (aa0 b)).trans (Int.natCast_emod a b).symm
theorem eZ (m:aQ G) {p B M:Nat} (hp:aO H p B) (hB:B < 100000) (h0:0 < M) (h1:M < 1000) (h:PW H p B M Q):G (k+1) "_law_draw" [.ref p,.int M] H Q:=by
 have hM:(0:Int) < M:=abA.mpr h0
 refine aq hp.2 λN c z=>?_
 have e:=z.1
 refine m.run 44 rfl rfl rfl (ad e (ad e ⟨(by decide:1 < 2),ng e λH1 f1 n1 e1=>ad e1 (yO (λhN=>?_) λzz=>?_)⟩))
 .refine ad e1 ⟨hM,ad e1 ⟨⟨hM,abA.mpr (aaA h1 (by decide))⟩,ad e1 ⟨(by decide:0 < 2),ng e1 λH2 f2 n2 e2=>?_⟩⟩⟩
  have e2:H2.g p= .list [.int ((N:Int).fdiv M),.int ((c:Int)+1)]:=e2
  rw [ET] at e2
  have:=h H2 (N % M) (f1.tr f2) (n2.trans n1) ⟨n2▸n1▸hp.1,_,c+1,e2,aa1 z.2⟩ (Nat.mod_lt _ h0)
  exact uY▸this
 .have bc:((c:Int)+1) < 1000000000:=abA.mpr (aaz (aa1 z.2) (aaA (abv hB) (by decide)))
  refine ad e1 (ad e1 ⟨.inl ⟨(Int.lt_of_lt_of_le (by decide) (aa0 (c+1))),bc⟩,hM,?_⟩)
  have:=h H1 (((c+1)*(c+1)+1) % M) f1 n1 ⟨n1▸hp.1,N,c+1,e1,aa1 z.2⟩ (Nat.mod_lt _ h0)
  rw [<-uY] at this
  exact this
theorem NG (m:aQ G) {a:Nat} {is:List Int} (e:H.g a= .no (is.map AV.int)) (h:∀H' p,ai aJ H H'->H.n<=p->aO H' p 0->Q (.ref p) H'):G (k+1) "_law_pen" [.ref a] H Q:=by
 refine m.run 43 rfl rfl rfl (ad e (cN λH1 f1 n1 e1=>dF (aH e1) (Mt AV.int (λ(zz:Unit) loc' H'=>H'=H1/\∃n:Nat,loc' "number"= .int n) (λzz zz=>()) (λJ=>bC ((J.1▸ .refl):ai aJ H1 _) (n1▸aaC _) id ⟨aH e1,rfl⟩) (is.take 24) (λi zz zz loc' H' C J hC=>?_) (st:=()) ⟨rfl,0,rfl⟩ (λloc' H' J=>J.2.elim λn l=>?_) List.map_take.symm)))
 rotate_left
 .exact ak l (cN λH2 f2 n2 e2=>h H2 _ ((J.1▸f1).tr f2) (J.1▸f1.le) ⟨n2▸aaC _,n,0,e2,aaF 0⟩)
 refine J.2.elim λn l=>?_
 have b1:big (1000003:Int):=⟨by decide,by decide⟩
 refine ak l ⟨.inl b1,.inr (⟨by decide,by decide⟩),yO (λhi=>?_) λhi=>?_⟩
 .exact hC _ H' ⟨J.1,n*1000003+2*i.natAbs+1+1,rfl⟩
 .exact hC _ H' ⟨J.1,n*1000003+2*i.natAbs+0+1,rfl⟩
end
noncomputable def d7 (va:Va):Prop:=(∃i,va= .at (.int i))\/(∃n,va= .at (.ref n)/\(n=1\/n=2))\/∃w,va= .arr [.int 0,.int 0,.int w,.int 7]
structure eU (d d':Di) (n:Nat):Prop where
 out:∀key,key ∉ ax->look key d'=look key d
 Il:∀key va,look key d'=some va->key∈ax->look key d=some va\/d7 va
 len:d'.length<=d.length+n
theorem eU.refl {d:Di}:eU d d 0:=⟨λzz zz=>rfl,λzz zz h zz=>.inl h,aaF _⟩
theorem eU.set {d d':Di} {n:Nat} (f:eU d d' n) {key:String} {va:Va} (hk:key∈ax) (hv:d7 va):eU d (cJ key va d') (n+1):=by
 refine ⟨λx hx=>?_,λx v h hx=>?_,aaw b3 (aa1 f.len)⟩
 .rw [az,if_neg (λe:key=x=>hx (e▸hk))];exact f.out x hx
 .rw [az] at h
  by_cases e:key=x
  .rw [if_pos e] at h;exact .inr (aay h▸hv)
  .rw [if_neg e] at h;exact f.Il x v h hx
theorem eU.up {d d':Di} {n:Nat} (f:eU d d' n):eU d d' (n+1):=⟨f.out,f.Il,abx f.len⟩
noncomputable def CK:List At:=[.ref 1,.ref 2,.ref 3,.ref 4]
noncomputable def v9 (H:HP) (ow:Nat):Prop:=ow < H.n/\∃vs,H.g ow= .list vs/\L2 (RA H) vs CK
theorem v9.mono {S:Nat->Prop} {H H':HP} {ow:Nat} (f:ai S H H') (hs:¬S ow) (h:v9 H ow):v9 H' ow:=⟨f.lt h.1,h.2.imp λzz r=>⟨f.at h.1 hs r.1,r.2.imp λzz zz r=>r.mono f⟩⟩
noncomputable def dQ (M:Int):X:= .call "_law_draw" (.cons (.loc "pen") (.o (.int M)))
noncomputable def Wl:S:= .bA (.cmp .eq (dQ 3) (.int 0)) (.o (.b8 (.loc "head") (.str "Rotate") (.bin .mul (.int 90) (dQ 4)))) .nil
noncomputable def W6:S:= .bA (.cmp .eq (dQ 3) (.int 0)) (.o (.b8 (.loc "head") (.str "Resources") (.idx (.loc "own") (dQ 2)))) .nil
noncomputable def VS:S:= .bA (.cmp .eq (dQ 4) (.int 0)) (.o (.b8 (.loc "head") (.idx (.tup (.cons (.str "MediaBox") (.o (.str "CropBox")))) (dQ 2)) (.list (.cons (.int 0) (.cons (.int 0) (.cons (.bin .add (.int 1) (dQ 9)) (.o (.int 7)))))))) .nil
noncomputable def Vd (p hd:Nat):Nat->Prop:=λx=>x=p\/x=hd
structure IS where
 Z:Nat->Prop
 p:Nat
 hd:Nat
 ow:Nat
 H:HP
 d0:Di
structure mH (c:IS):Prop where
 zp:∀x,c.Z x->x≠c.p
 zn:∀x,c.H.n<=x->c.Z x
 ne:c.hd≠c.p
 ne2:c.hd≠c.ow
 now:c.ow≠c.p
 len:c.d0.length < 50
structure FS (c:IS) (H:HP) (B n:Nat) (d:Di):Prop where
 aD:ai (Vd c.p c.hd) c.H H
 cW:aO H c.p B
 own:v9 H c.ow
 rd:RD c.Z H c.hd d
 fo:eU c.d0 d n
section
variable {G:Nat->aj} {H H':HP} {Q:KV} {QS:KS} {k B n:Nat} {loc:Loc} {c:IS} {d:Di}
theorem FS.draw (s:FS c H B n d) (ok:mH c) (f:ai (atS c.p) H H') (hp:aO H' c.p (B+1)):FS c H' (B+1) n d:=
 ⟨s.aD.tr (f.weak λzz zz q=>Or.inl q),hp,s.own.mono f ok.now,s.rd.mono f λa zz h=>⟨ok.zp a h,h⟩,s.fo⟩
theorem FS.up (s:FS c H B n d):FS c H (B+1) (n+1) d:=⟨s.aD,s.cW.up (aba _),s.own,s.rd,s.fo.up⟩
theorem FS.new (s:FS c H B n d) (f:ai aJ H H'):FS c H' B n d:=⟨s.aD.tn f,s.cW.mono f id,s.own.mono f id,s.rd.mn f,s.fo⟩
theorem FS.put (s:FS c H B n d) (ok:mH c) (hn:n < 4) {key:String} {u:AV} {va:Va} (ru:RV c.Z H u va) (hk:key∈ax) (hv:d7 va) {F:HP->Prop} (h:∀H',FS c H' B (n+1) (cJ key va d)->F H'):ob (H.g c.hd) (wi c.hd (.str key) u H F):=
 s.rd.set ru (aaz s.fo.len (aaA (Nat.add_lt_add ok.len hn) (by decide))) λH' f zz r=>h H' ⟨s.aD.tr (f.weak λzz zz q=>Or.inr q),s.cW.mono f (abm ok.ne),s.own.mono f (abm ok.ne2),r,s.fo.set hk hv⟩
theorem FS.pull (m:aQ G) (s:FS c H B n d) (ok:mH c) (hB:B < 90000) (l0:loc "pen"= .ref c.p) {M:Nat} (h0:0 < M) (h1:M < 1000) (h:∀H' (r:Nat),ai (atS c.p) H H'->FS c H' (B+1) n d->r < M->Q (.int r) H'):dQ M (G (k+1)) loc H Q:=
 ak l0 (eZ m s.cW (aaA hB (by decide)) h0 h1 λH1 r f1 zz Rh hr=>h H1 r f1 (s.draw ok f1 Rh) hr)
noncomputable def Fx (c:IS) (B n:Nat) (loc:Loc) (QS:KS):Prop:=∀H' d',FS c H' B n d'->QS .next loc H'
theorem Oe (m:aQ G) (s:FS c H B n d) (ok:mH c) (hn:n < 4) (hB:B < 80000) (l0:loc "pen"= .ref c.p) (l1:loc "head"= .ref c.hd) (h:Fx c (B+2) (n+1) loc QS):Wl (G (k+1)) loc H QS:=by
 refine s.pull m ok (aaA hB (by decide)) l0 (M:=3) (by decide) (by decide) λH1 r zz s1 zz=>yO (λzz=>?_) λzz=>h H1 d s1.up
 refine s1.pull m ok (aaA (abv hB) (by decide)) l0 (M:=4) (by decide) (by decide) λH2 r2 zz s2 zz=>⟨.inr ⟨by decide,by decide⟩,ak l1 ?_⟩
 exact s2.put ok hn (va:= .at (.int (90*r2))) rfl (by decide) (.inl ⟨_,rfl⟩) λH3 s3=>h H3 _ s3
theorem QX (m:aQ G) (s:FS c H B n d) (ok:mH c) (hn:n < 4) (hB:B < 80000) (l0:loc "pen"= .ref c.p) (l1:loc "head"= .ref c.hd) (l2:loc "own"= .ref c.ow) (h:Fx c (B+2) (n+1) loc QS):W6 (G (k+1)) loc H QS:=by
 refine s.pull m ok (aaA hB (by decide)) l0 (M:=3) (by decide) (by decide) λH1 r zz s1 zz=>yO (λzz=>?_) λzz=>h H1 d s1.up
 refine ak l2 (s1.pull m ok (aaA (abv hB) (by decide)) l0 (M:=2) (by decide) (by decide) λH2 r2 zz s2 hr=>s2.own.2.elim λvs o=>?_)
 have hi:CK[r2]? =some (.ref (r2+1))/\((r2:Int)+1=1\/(r2:Int)+1=2):=match r2,hr with
  | 0,_=>⟨rfl,.inl rfl⟩
  | 1,_=>⟨rfl,.inr rfl⟩
  | i+2,hi=>absurd hi (aaP.mpr (abn 2 i))
 refine (o.2.get hi.1).elim λu w=>ad o.1 (dF (v:=u) w.1 (ak l1 ?_))
 exact s2.put ok hn (va:= .at (.ref (r2+1))) w.2 (by decide) (.inr (.inl ⟨_,rfl,hi.2⟩)) λH3 s3=>h H3 _ s3
theorem Nq (m:aQ G) (s:FS c H B n d) (ok:mH c) (hn:n < 4) (hB:B < 80000) (l0:loc "pen"= .ref c.p) (l1:loc "head"= .ref c.hd) (h:Fx c (B+3) (n+1) loc QS):VS (G (k+1)) loc H QS:=by
 refine s.pull m ok (aaA hB (by decide)) l0 (M:=4) (by decide) (by decide) λH1 r zz s1 zz=>yO (λzz=>?_) λzz=>h H1 d ⟨s1.aD,s1.cW.up (aaM _ 2),s1.own,s1.rd,s1.fo.up⟩
 refine s1.pull m ok (aaA (abv hB) (by decide)) l0 (M:=9) (by decide) (by decide) λH2 r2 zz s2 zz=>cN λH3 f3 n3 e3=>ak l1 ?_
 refine (s2.new f3).pull m ok (aaA (Nat.add_lt_add_right hB 2) (by decide)) l0 (M:=2) (by decide) (by decide) λH4 r4 f4 s4 hr=>?_
 have hk:∃key,[AV.str "MediaBox",.str "CropBox"][(r4:Int).toNat]? =some (.str key)/\key∈ax/\U7 (r4:Int)=true:=match r4,hr with
  | 0,_=>⟨"MediaBox",rfl,by decide,rfl⟩
  | 1,_=>⟨"CropBox",rfl,by decide,rfl⟩
  | i+2,hi=>absurd hi (aaP.mpr (abn 2 i))
 have l3:H2.n < H3.n:=n3▸aaC _
 have zl:c.Z H2.n:=ok.zn _ s2.aD.le
 refine hk.elim λkey w=>KO w.2.2 (dF (v:= .str key) w.1 ?_)
 refine s4.put ok hn (va:= .arr [.int 0,.int 0,.int (1+r2),.int 7]) (bH H2.n _ ⟨rfl,⟨f4.lt l3,zl⟩,f4.ne l3 e3 (ok.zp _ zl),.cons rfl (.cons rfl (.cons rfl (.cons rfl .nil)))⟩) w.2.1 (.inr (.inr ⟨_,rfl⟩)) λH5 s5=>h H5 _ s5
noncomputable def J9:SL:= .cons Wl (.cons W6 (.cons VS (.o (.ret (.loc "head")))))
theorem Dv (m:aQ G) (ok:mH c) (s0:FS c c.H B 0 c.d0) (hB:B < 70000) (l0:loc "pen"= .ref c.p) (l1:loc "head"= .ref c.hd) (l2:loc "own"= .ref c.ow) (h:∀H' d',FS c H' (B+7) 3 d'->Q (.ref c.hd) H'):J9 (G (k+1)) loc c.H (eH Q):=by
 have lt:∀{i},i<=10->B+i < 80000:=λhi=>aax (Nat.add_lt_add_of_lt_of_le hB hi) (by decide)
 exact Oe m s0 ok (by decide) (lt (i:=0) (by decide)) l0 l1 λH1 d1 s1=>QX m s1 ok (by decide) (lt (i:=2) (by decide)) l0 l1 l2 λH2 d2 s2=>Nq m s2 ok (by decide) (lt (i:=4) (by decide)) l0 l1 λH3 d3 s3=>ak l1 (h H3 d3 s3)
theorem CJ (m:aQ G) (ok:mH c) {s:Nat} (s0:FS c c.H B 0 c.d0) (hB:B < 70000) (h:∀H' d',FS c H' (B+7) 3 d'->Q (.ref c.hd) H'):G (k+2) "_law_fill" [.ref c.p,.ref s,.ref c.ow,.ref c.hd] c.H Q:=by
 refine m.run 45 rfl rfl rfl ?_
 show J9 (G (k+1)) ((((Loc.new.upd "pen" (.ref c.p)).upd "shelf" (.ref s)).upd "own" (.ref c.ow)).upd "head" (.ref c.hd)) c.H (eH Q)
 exact Dv m ok s0 hB rfl rfl rfl h
end
noncomputable def ents:Int->List (Nat × Di)->List (AV × AV)
 | _,[]=>[]
 | q,x::r=>(.int q,.tup [.int 0,.ref x.1])::ents (q+1) r
theorem Bn {a:Nat} {d:Di} {l:List (Nat × Di)}:∀{q:Int},ents q (l++[(a,d)])=ents q l++[(.int (q+l.length),.tup [.int 0,.ref a])]:=by
 induction l with
 | nil=>exact λ{q}=>by rw [List.length_nil,Int.natCast_zero,Int.add_zero];rfl
 | cons x r ih=>exact λ{q}=>by show _::ents (q+1) (r++_)=_;rw [ih,aa2,G8];rfl
theorem Es {l:List (Nat × Di)}:∀{q:Int},(ents q l).length=l.length:=by
 induction l with
 | nil=>exact rfl
 | cons x r ih=>exact congrArg (· +1) ih
theorem BH {l:List (Nat × Di)}:∀{n:Nat},(ents (n+1) l).map (·.1)=(List.range' n l.length).map λ(i:Nat)=>AV.int ((i:Int)+1):=by
 induction l with
 | nil=>exact rfl
 | cons x r ih=>exact λ{n}=>by rw [aa2,abD,aa4,<-ih];rfl
theorem B2 {l:List (Nat × Di)}:∀{m:List (Nat × Di)} {q:Int},l.map (·.1)=m.map (·.1)->ents q l=ents q m:=by
 induction l with
 | nil=>exact λ{m q} h=>by rw [List.map_eq_nil_iff.mp h.symm]
 | cons x l ih=>
  intro m q h
  cases m with
  | nil=>cases h
  | cons y m=>
   have h:=abf h
   show (_,AV.tup [_,.ref x.1])::_=(_,AV.tup [_,.ref y.1])::_
   rw [show x.1=y.1 from h.1,ih h.2]
noncomputable def oJ:List (Int × Ob):=[(1,.dict [("Font",.at (.int 1))]),(2,.dict [("Font",.at (.int 2))]),(3,KE),(4,L6)]
structure mX where
 p:Nat
 s:Nat
 t:Nat
 ow:Nat
 rw:Nat
 lo:Nat
 hi:Nat
noncomputable def wb (H:HP) (v:AV) (x:Int × Nat × Di):Prop:=∃rf,v= .tup [.ref rf,.ref x.2.1]/\rf < H.n/\H.g rf=cH x.1
theorem wb.mono {S:Nat->Prop} {H H':HP} (f:ai S H H') {v:AV} {x:Int × Nat × Di} (r:wb H v x):wb H' v x:=r.imp λzz r=>⟨r.1,f.lt r.2.1,f.fix r.2.1 r.2.2 rfl⟩
structure o6 (g:mX):Prop where
 ps:g.p < g.s
 st:g.s < g.t
 tl:g.t < g.lo
 lh:g.lo<=g.hi
 ho:g.hi<=g.ow
 G7:g.ow < g.rw
theorem o6.tr {g:mX} (o:o6 g):g.t < g.rw:=aax o.tl (aaw o.lh (aaw o.ho (aaI o.G7)))
theorem o6.pt {g:mX} (o:o6 g):g.p < g.t:=aaA o.ps o.st
theorem o6.to {g:mX} (o:o6 g):g.t < g.ow:=aax o.tl (aaw o.lh o.ho)
structure GI (X:Nat->Prop) (H:HP) (g:mX) (hs:List (Nat × Di)) (rows:List (Int × Nat × Di)):Prop where
 i5:o6 g
 qe:g.rw < H.n
 sh:∃tr,H.g g.s=iy g.t tr
 tab:∃wY,H.g g.t= .dict (wY++ents 5 hs)/\L2 (RT (λy=>g.lo<=y/\y < g.hi) H) wY oJ
 own:v9 H g.ow
 rws:∃vs,H.g g.rw= .list vs/\L2 (wb H) vs rows
 heads:∀x∈hs,RD (λy=>¬X y) H x.1 x.2
 gg:∀x∈rows,RD (λy=>¬X y) H x.2.1 x.2.2
 nd:(hs.map (·.1)++rows.map (·.2.1)).Nodup
 jR:∀x∈hs,g.rw < x.1
 Jo:∀x∈rows,g.rw < x.2.1
 xp:X g.p
 xt:X g.t
 xr:X g.rw
 hl:hs.length<=50
 rl:rows.length<=50
section
variable {G:Nat->aj} {H H':HP} {Q:KV} {k:Nat} {P S X X':Nat->Prop} {g:mX} {hs:List (Nat × Di)} {rows:List (Int × Nat × Di)}
theorem GI.sl (a:GI X H g hs rows):g.s < H.n:=aaA a.i5.st (aaA a.i5.tr a.qe)
theorem GI.tl (a:GI X H g hs rows):g.t < H.n:=aaA a.i5.tr a.qe
theorem GI.mono (f:ai S H H') (a:GI X H g hs rows) (hS:∀y,S y->y=g.p\/(g.rw < y/\X y)) (hX:∀y,y < H.n->¬X y->¬X' y) (xp:X' g.p) (xt:X' g.t) (xr:X' g.rw):GI X' H' g hs rows:=by
 have ge:=a.i5
 have nS:∀{y},g.p < y->y<=g.rw->¬S y:=λh1 h2 q=>(hS _ q).elim (λe=>aaN h1 e) λe=>aaP.mpr h2 e.1
 have xS:∀y,y < H.n->¬X y->¬S y/\¬X' y:=λy hy hx=>⟨λq=>(hS y q).elim (λe=>hx (e▸a.xp)) λe=>hx e.2,hX y hy hx⟩
 exact ⟨ge,f.lt a.qe,a.sh.imp λzz e=>f.at a.sl (nS ge.ps (aaI (aaA ge.st ge.tr))) e,a.tab.imp λzz e=>⟨f.at a.tl (nS ge.pt (aaI ge.tr)) e.1,e.2.imp λzz zz r=>r.mono f λy zz hy=>⟨nS (aax (aaA ge.pt ge.tl) hy.1) (aaw (aaI hy.2) (aaw ge.ho (aaI ge.G7))),hy⟩⟩,
  a.own.mono f (nS (aaA ge.pt ge.to) (aaI ge.G7)),a.rws.imp λzz e=>⟨f.at a.qe (nS (aaA ge.pt ge.tr) (aaF _)) e.1,e.2.imp λzz zz r=>r.mono f⟩,λx hx=>(a.heads x hx).mono f xS,λx hx=>(a.gg x hx).mono f xS,a.nd,a.jR,a.Jo,xp,xt,xr,a.hl,a.rl⟩
theorem JS {wY:List (AV × AV)} (l:L2 (RT P H) wY oJ):(wY++ents 5 hs).map (·.1)=dY (wY++ents 5 hs).length/\(wY++ents 5 hs).length=4+hs.length:=by
 have PK:(wY++ents 5 hs).length=4+hs.length:=by rw [aaD,l.len,Es];rfl
 refine ⟨?_,PK⟩
 rw [PK,aaL,(l.map_eq (g:=λx:Int × Ob=>AV.int x.1) λzz zz r=>r.1),show (5:Int)=((4:Nat):Int)+1 from rfl,BH,dY,List.range_eq_range',abg,abD,abD,abD,abD];rfl
theorem GI.add (m:aQ G) (a:GI X H g hs rows) {hd:Nat} {d:Di} (rd:RD (λy=>¬X y) H hd d) (jR:g.rw < hd) (AM:hd ∉ hs.map (·.1)++rows.map (·.2.1)) (hl:hs.length < 50)
  (h:∀H' rr,ai (atS g.t) H H'->H.n<=rr->rr < H'.n->H'.g rr=cH (5+(hs.length:Int))->GI X H' g (hs++[(hd,d)]) rows->Q (.ref rr) H'):G (k+2) "Shelf.add" [.ref g.s,.ref hd] H Q:=by
 refine a.sh.elim λtr e1=>a.tab.elim λwY e2=>?_
 have ge:=a.i5
 have kk:=JS (hs:=hs) e2.2
 refine CR m nofun e1 e2.1 kk.1 ((kk.2)▸aax (abr hl 4) (by decide)) (λH' f n et er=>?_) a.tl
 rw [(show (((wY++ents 5 hs).length:Nat):Int)+1=5+(hs.length:Int) from by exact (kk.2)▸NA)] at et er
 have xS:cX (atS g.t) (λy=>¬X y) (λy=>¬X y) H:=λy zz hx=>⟨λq=>hx ((show y=g.t from q)▸a.xt),hx⟩
 refine h H' H.n f (aaF _) (n▸aaC _) er ⟨ge,f.lt a.qe,⟨tr,f.ne a.sl e1 (aaJ ge.st)⟩,⟨wY,et.trans (by rw [Bn,aaW]),e2.2.imp λzz zz r=>r.mono f λy zz hy=>⟨aaN (aax ge.tl hy.1),hy⟩⟩,
  a.own.mono f (aaN ge.to),a.rws.imp λzz e=>⟨f.ne a.qe e.1 (aaN ge.tr),e.2.imp λzz zz r=>r.mono f⟩,λx hx=>(aa6.mp hx).elim (λq=>(a.heads x q).mono f xS) λq=>aaK.mp q▸rd.mono f xS,λx hx=>(a.gg x hx).mono f xS,?_,λx hx=>(aa6.mp hx).elim (a.jR x) λq=>aaK.mp q▸jR,a.Jo,a.xp,a.xt,a.xr,by rw [aaD];exact hl,a.rl⟩
 rw [aaL,aaW]
 exact (List.perm_middle.nodup_iff).mpr (aa8.mpr ⟨AM,a.nd⟩)
theorem GI.row (a:GI X H g hs rows) {rf ff:Nat} {n:Int} {fd:Di} (Wz:rf < H.n) (P8:H.g rf=cH n) (rd:RD (λy=>¬X y) H ff fd) (jR:g.rw < ff) (AM:ff ∉ hs.map (·.1)++rows.map (·.2.1)) (hl:rows.length < 50) {K:KV}
  (h:∀H',ai (atS g.rw) H H'->H'.n=H.n->GI X H' g hs (rows++[(n,ff,fd)])->K .none H'):Gx g.rw "append" K [.tup [.ref rf,.ref ff]] H:=by
 refine a.rws.elim λvs e=>ad e.1 ⟨e.2.len▸aaA hl (by decide),ng e.1 λH' f n' e'=>?_⟩
 have ge:=a.i5
 have xS:cX (atS g.rw) (λy=>¬X y) (λy=>¬X y) H:=λy zz hx=>⟨λq=>hx ((show y=g.rw from q)▸a.xr),hx⟩
 refine h H' f n' ⟨ge,f.lt a.qe,a.sh.imp λzz e=>f.ne a.sl e (aaJ (aaA ge.st ge.tr)),a.tab.imp λzz e=>⟨f.ne a.tl e.1 (aaJ ge.tr),e.2.imp λzz zz r=>r.mono f λy zz hy=>⟨aaJ (aax hy.2 (aaw ge.ho (aaI ge.G7))),hy⟩⟩,a.own.mono f (aaJ ge.G7),⟨_,e',(e.2.imp λzz zz r=>r.mono f).snoc ⟨rf,rfl,f.lt Wz,f.fix Wz P8 rfl⟩⟩,
  λx hx=>(a.heads x hx).mono f xS,λx hx=>(aa6.mp hx).elim (λq=>(a.gg x q).mono f xS) λq=>aaK.mp q▸rd.mono f xS,?_,a.jR,λx hx=>(aa6.mp hx).elim (a.Jo x) λq=>aaK.mp q▸jR,a.xp,a.xt,a.xr,a.hl,by rw [aaD];exact hl⟩
 rw [aaL,<-aaW]
 exact (List.perm_middle.nodup_iff).mpr (aa8.mpr ⟨(aaY (_++_)).symm▸AM,(aaY (_++_)).symm▸a.nd⟩)
end
noncomputable def mU (k:String):Di->Di
 | []=>[]
 | e::r=>bif e.1==k then r else e::mU k r
section
variable {k key j:String} {v w:Va} {d a b gd:Di} {P:Nat->Prop} {H H':HP}
theorem AI:mU k ((k,w)::d)=d:=by show (bif _ then _ else _)=_;rw [beq_self_eq_true];rfl
theorem zA (h:j≠k):mU k ((j,w)::d)=(j,w)::mU k d:=by show (bif _ then _ else _)=_;rw [beq_eq_false_iff_ne.mpr h];rfl
theorem oh:(mU k d).Sublist d:=by
 induction d with
 | nil=>exact .slnil
 | cons x r ih=>
  obtain ⟨j,w⟩:=x
  by_cases e:j=k
  .rw [e,AI];exact .cons _ (.refl _)
  .rw [zA e];exact .cons_cons _ ih
theorem vW:(d.map (·.1)).Nodup->look key (mU k d)=if key=k then .none else look key d:=by
 induction d with
 | nil=>exact λzz=>(ite_self _).symm
 | cons x r ih=>
  obtain ⟨j,w⟩:=x
  intro nd
  have nd:=aa8.mp nd
  by_cases e:j=k
  .rw [e,AI]
   by_cases q:key=k
   .rw [if_pos q,q];exact iG (e▸nd.1)
   .rw [if_neg q,aL (abm q)]
  .rw [zA e]
   by_cases q:j=key
   .rw [<-q,aY,aY,if_neg e]
   .rw [aL q,aL q,ih nd.2]
theorem HG {es:List (AV × AV)} (l:L2 (RE P H) es d):L2 (RE P H) (wB (.str key) es) (mU key d):=l.rec .nil λ{e x zz zz} r l ih=>by
 show L2 _ (bif i8 e.1 _ then _ else _) (bif x.1==key then _ else _)
 rw [r.1]
 show L2 _ (bif decide (x.1=key) then _ else _) (bif decide (x.1=key) then _ else _)
 exact match decide (x.1=key) with
  | true=>l
  | false=>.cons r ih
theorem RD.pop {a:Nat} (r:RD P H a d) {Q:KV} (hl:look key d=some v) (h:∀H' u,ai (atS a) H H'->H'.n=H.n->RD P H' a (mU key d)->Q u H'):Kk a "pop" Q [.str key] H:=
 r.at λes e l=>⟨dy l,((fU l).some hl).elim λu q=>dF q.1 (ng e λH' f n e'=>h H' u f n ⟨n▸r.lt,r.zone,⟨_,e',(HG l).imp λzz zz q=>⟨q.1,q.2.upd f e⟩⟩,(oh.map _).nodup r.nd⟩)⟩
noncomputable def d5 (gd d:Di):Di:=(gd.filter λx=>(look x.1 d).isNone)++d
theorem pW:look key (a++b)=(look key a).or (look key b):=by
 induction a with
 | nil=>rfl
 | cons x r ih=>
  obtain ⟨j,w⟩:=x
  by_cases q:j=key
  .rw [<-q,List.cons_append,aY,aY];rfl
  .rw [List.cons_append,aL q,aL q,ih]
theorem Dz {p:String->Bool}:look key (d.filter λx=>p x.1)=bif p key then look key d else .none:=by
 induction d with
 | nil=>exact (by cases p key<;>rfl)
 | cons x r ih=>
  obtain ⟨j,w⟩:=x
  by_cases e:j=key
  .rw [<-e] at ih ⊢
   cases h:p j with
   | true=>rw [List.filter_cons_of_pos (p:=λx:String × Va=>p x.1) h,aY,aY];rfl
   | false=>rw [List.filter_cons_of_neg (by rw [h];exact aaE),ih,h];rfl
  .rw [aL e,<-ih]
   cases h:p j with
   | true=>rw [List.filter_cons_of_pos (p:=λx:String × Va=>p x.1) h,aL e]
   | false=>rw [List.filter_cons_of_neg (by rw [h];exact aaE)]
theorem fh:look key (d5 gd d)=(look key d).or (look key gd):=by
 unfold d5
 rw [pW,Dz (p:=λs=>(look s d).isNone)]
 cases look key d with
 | none=>show (look key gd).or .none=look key gd;exact Option.or_none
 | some v=>rfl
theorem Fi (h1:(gd.map (·.1)).Nodup) (h2:(d.map (·.1)).Nodup):((d5 gd d).map (·.1)).Nodup:=by
 unfold d5
 rw [aaL,abw]
 refine ⟨(List.filter_sublist.map _).nodup h1,h2,λa ha b hb e=>(aaG.mp ha).elim λx z=>(aaG.mp hb).elim λy z'=>?_⟩
 have:=(abk.mp z.1).2
 refine (ku (key:=y.1) (v:=y.2) z'.1).elim λw hw=>?_
 rw [show x.1=y.1 from z.2.trans (e.trans z'.2.symm),hw] at this
 exact absurd this aaE
noncomputable def wy:List String:=["Rotate","Resources","MediaBox","CropBox"]
noncomputable def jS (d:Di) (k:String):Option (String × Va):=(look k d).map (Prod.mk k)
noncomputable def jP (d:Di) (l:List String):Di:=l.filterMap (jS d)
theorem je {x:String × Va} {l:List String} (h:x∈jP d l):x.1∈l/\look x.1 d=some x.2:=(abB.mp h).elim λk z=>(Option.map_eq_some_iff.mp z.2).elim λv w=>w.2▸⟨z.1,w.1⟩
noncomputable def lP (l e:Di):Di:=l.foldl (λe x=>cJ x.1 x.2 e) e
noncomputable def b0 (gd d:Di):Di:=lP (gd++jP d wy) []
theorem uU:∀{e:Di},look key (lP a e)=(look key a.reverse).or (look key e):=by
 induction a with
 | nil=>exact rfl
 | cons x r ih=>
  obtain ⟨j,w⟩:=x
  intro e
  rw [List.reverse_cons,pW,Option.or_assoc]
  refine ih.trans (congrArg _ ?_)
  rw [az]
  by_cases q:j=key
  .rw [if_pos q,q,aY];rfl
  .rw [if_neg q,aL q];rfl
theorem qU:∀{e:Di},(e.map (·.1)).Nodup->((lP a e).map (·.1)).Nodup:=by
 induction a with
 | nil=>exact id
 | cons x r ih=>exact λh=>ih (c5 h)
theorem ya:∀{e:Di},(lP a e).length<=e.length+a.length:=by
 induction a with
 | nil=>exact λ{e}=>aaF _
 | cons x r ih=>exact λ{e}=>aaw ih (by rw [aa2,<-aa9,Nat.add_right_comm];exact abb b3 _)
theorem AZ (h:a.Perm b) (nd:(a.map (·.1)).Nodup):look key a=look key b:=by
 cases e:look key b with
 | some v=>exact ch nd (h.mem_iff.mpr (cA e))
 | none=>
  cases e2:look key a with
  | none=>rfl
  | some v=>exact (e.symm.trans (ch ((h.map (·.1)).nodup_iff.mp nd) (h.mem_iff.mp (cA e2)))).symm
theorem uF {l:List String}:l.Nodup->((jP d l).map (·.1)).Nodup:=by
 induction l with
 | nil=>exact λzz=>.nil
 | cons k r ih=>
  intro h
  have h:=aa8.mp h
  show ((List.filterMap (jS d) (k::r)).map (·.1)).Nodup
  cases e:jS d k with
  | none=>rw [List.filterMap_cons_none e];exact ih h.2
  | some x=>
   rw [List.filterMap_cons_some e]
   refine aa8.mpr ⟨λhm=>(aaG.mp hm).elim λy z=>h.1 ?_,ih h.2⟩
   have:x.1=k:=(Option.map_eq_some_iff.mp e).elim λv w=>w.2▸rfl
   exact (show y.1=k from z.2.trans this)▸(je z.1).1
theorem xo {l:List String} (hl:l.Nodup):look key (jP d l)=if key∈l then look key d else .none:=by
 by_cases hk:key∈l
 .rw [if_pos hk]
  cases h:look key d with
  | none=>exact iG λhm=>(aaG.mp hm).elim λx z=>(by have:=(je z.1).2;rw [show x.1=key from z.2,h] at this;exact nomatch this)
  | some va=>exact ch (uF hl) (abB.mpr ⟨key,hk,by unfold jS;rw [h];rfl⟩)
 .rw [if_neg hk]
  exact iG λhm=>(aaG.mp hm).elim λx z=>hk (z.2▸(je z.1).1)
theorem ol:key∈wy ↔ key∈ax:=⟨λh=>(by decide:∀x∈wy,x∈ax) key h,λh=>(by decide:∀x∈ax,x∈wy) key h⟩
theorem jj (h:(gd.map (·.1)).Nodup):look key (b0 gd d)=if key∈ax then (look key d).or (look key gd) else look key gd:=by
 unfold b0
 have r:∀{a:Di},(a.map (·.1)).Nodup->look key a.reverse=look key a:=λnd=>(AZ (List.reverse_perm _).symm nd).symm
 rw [uU,List.reverse_append,pW,r h,r (uF (by decide)),xo (by decide)]
 show Option.or _ .none=_
 rw [Option.or_none]
 by_cases e:key∈ax
 .rw [if_pos e,if_pos (ol.mpr e)]
 .rw [if_neg e,if_neg λq=>e (ol.mp q)];rfl
theorem DS:((b0 gd d).map (·.1)).Nodup:=qU .nil
theorem qN:(b0 gd d).length<=gd.length+4:=aaw ya (by rw [aaD,List.length_nil,abE];exact abj (List.length_filterMap_le ..) _)
end
noncomputable def Ap (src:String):X:= .tup (.cons (.loc "key") (.o (.idx (.loc src) (.loc "key"))))
noncomputable def Ey:X:= .prim "dict" (.o (.bin .add (.aC (Ap "given") (.nm "key") .plain (.o (.loc "given")) (X.bN (.cmp .cL (.loc "key") (.loc "head")) X.yes)) (.aC (Ap "head") (.nm "key") .plain (.o (.loc "head")) X.yes)))
noncomputable def Ej:X:= .prim "dict" (.o (.bin .add (.aC (Ap "given") (.nm "key") .plain (.o (.loc "given")) X.yes) (.aC (Ap "head") (.nm "key") .plain (.o (.tup (.cons (.str "Rotate") (.cons (.str "Resources") (.cons (.str "MediaBox") (.o (.str "CropBox"))))))) (X.bN (.cmp .isIn (.loc "key") (.loc "head")) X.yes))))
section
variable {H H':HP} {Q:KV} {P:Nat->Prop} {Γ:aj} {loc:Loc} {gd d:Di} {gv hd a:Nat}
theorem A8 {ps:List (AV × AV)} {l:Di} (h:L2 (RE P H) ps l):∀{es:List (AV × AV)} {e:Di},L2 (RE P H) es e->L2 (RE P H) (ps.foldl (λes p=>bS p.1 p.2 es) es) (lP l e):=by
 induction h with
 | nil=>exact id
 | @cons p x _ _ r _ ih=>
  refine λ{es e} q=>ih ?_
  show L2 _ (bS p.1 p.2 es) _
  exact (r.1)▸ze r.2 q
theorem yF {vs:List AV} (e:H.g a= .list vs) (l:L2 (fC P H) vs d) (z:P H.n) (h:vV P Q H (lP d [])):vU (.ref a) H Q:=by
 refine (vb l).elim λes q=>ad e (dF q.1 ⟨?_,?_⟩)
 .exact (jU q.2)▸lv (n:=1) (λzz=>rfl) (by decide)
 .exact cN λH' f n e'=>h H' _ f (aaF _) (.fresh (n▸aaC _) z e' ((A8 q.2 .nil).imp λzz zz r=>r.mono f aV) (qU .nil))
theorem x7 {β γ:Type} {r:AV->β->Prop} {q:HP->AV->γ->Prop} {xs:List AV} {ws:List β} {elt:PX} {cs:PC} {tg:Tg} (f:β->γ) (p:β->Bool) (qm:∀H' bz v c,ai aJ H' bz->q H' v c->q bz v c) (hr:L2 r xs ws) (hl:xs.length<=lim)
  (step:∀v w H' (C:KV) (N:HP->Prop),r v w->ai aJ H H'->(p w=true->∀bz u,ai aJ H' bz->q bz u (f w)->C u bz)->(p w=false->N H')->Gq elt cs tg loc v H' C N) (h:tU q Q H aJ ((ws.filter p).map f)):eV elt tg .plain cs loc Q [.tup xs] H:=
 q8 (src:=ck (.tup xs) xs 0) f p .tr qm (λH' f'=>⟨rfl,rfl⟩) step hr [] [] H (by rwa [List.length_nil,abE]) .refl .nil λH' acc f' l=>Qv h qm f' l
theorem Dr (v1:loc "given"= .ref gv) (v2:loc "head"= .ref hd) (r1:RD P H gv gd) (r2:RD P H hd d) (h1:gd.length < 64) (h2:d.length < 64) (h:vV (bf P H.n) Q H (d5 gd d)):Ey Γ loc H Q:=by
 have r1:=r1.fA (bf P H.n) λzz zz h=>.inl h
 have r2:=r2.fA (bf P H.n) λzz zz h=>.inl h
 have k1:(bI gd).length<=lim:=dC▸aaI (gA h1)
 have k2:(bI d).length<=lim:=dC▸aaI (gA h2)
 refine r1.ex.elim λU9 l1=>r2.ex.elim λNH l2=>ak v1 (dB (q:=fC (bf P H.n)) (qS l1.1 l1.2) r1.lt id (λx=>(look x.1 d).isNone) (λzz zz zz zz f z=>z.mn f) gu k1 (λv x H' C N rv f y n=>?_) λH1 a1 R8 f1 Ku qc e1 q1=>?_)
 .obtain rfl:=rv.1
  refine ak v2 ((r2.mn f).isin ?_)
  cases e:look x.1 d with
  | none=>exact ak v1 ((r1.mn f).idx (ch r1.nd rv.2) λu ru=>y (congrArg _ (e)) H' _ .refl ⟨u,rfl,ru⟩)
  | some w=>exact n (congrArg _ (e))
 rw [aby] at q1
 refine ak v2 (cB (q:=fC (bf P H.n)) (qS (f1.keep r2.lt l2.1) (l2.2.imp λzz zz r=>r.mono f1 aV)) (f1.lt r2.lt) id (λzz zz zz zz f z=>z.mn f) gu k2 (λv x H' C N rv f y=>?_) λH2 a2 JU f2 qA lD e2 q2=>?_)
 .obtain rfl:=rv.1
  exact ak v2 ((r2.mn (f1.tr f)).idx (ch r2.nd rv.2) λu ru=>y H' _ .refl ⟨u,rfl,ru⟩)
 rw [aby] at q2
 have fL:=f1.tr f2
 refine ad (f2.keep qc e1) (ad e2 ⟨?_,cN λH3 f3 n3 e3=>?_⟩)
 .rw [q1.len,q2.len]
  exact aaw (aaQ (aaw (List.length_filter_le ..) (aaI h1)) (aaI h2)) (by decide)
 .exact iS e3 ((q1.imp λzz zz r=>r.mn (f2.tr f3)).append (q2.imp λzz zz r=>r.mn f3)) (Fi r1.nd r2.nd) (.inr (fL.tr f3).le) λH4 b f4 R9 rd=>h H4 b ((fL.tr f3).tr f4) (aaw (fL.tr f3).le R9) rd
theorem Gc (v1:loc "given"= .ref gv) (v2:loc "head"= .ref hd) (r1:RD P H gv gd) (r2:RD P H hd d) (h1:gd.length < 64) (h:vV (bf P H.n) Q H (b0 gd d)):Ej Γ loc H Q:=by
 have r1:=r1.fA (bf P H.n) λzz zz h=>.inl h
 have r2:=r2.fA (bf P H.n) λzz zz h=>.inl h
 refine r1.ex.elim λU9 l1=>ak v1 (cB (q:=fC (bf P H.n)) (qS l1.1 l1.2) r1.lt id (λzz zz zz zz f z=>z.mn f) gu (dC▸aaI (gA h1)) (λv x H' C N rv f y=>?_) λH1 a1 R8 f1 Ku qc e1 q1=>?_)
 .obtain rfl:=rv.1
  exact ak v1 ((r1.mn f).idx (ch r1.nd rv.2) λu ru=>y H' _ .refl ⟨u,rfl,ru⟩)
 rw [aby] at q1
 have r2:=r2.mn f1
 refine x7 (q:=fC (bf P H.n)) (ws:=wy) (r:=λv (w:String)=>v= .str w) (λw:String=>(w,(look w d).getD (.at .none))) (λw=>(look w d).isSome) (λzz zz zz zz f z=>z.mn f) (L2.mJ (r:=λv (w:String)=>v=AV.str w) (f:=AV.str) (l:=wy) (L2.diag λzz zz=>rfl)) (by decide:4<=lim) (λv w H' C N rv f y n=>?_) λH3 a3 JU f3 A1 B9 e3 q2=>?_
 .subst rv
  refine ak v2 ((r2.mn f).isin ?_)
  cases e:look w d with
  | none=>exact n (congrArg _ (e))
  | some va=>exact ak v2 ((r2.mn f).idx e λu ru=>y (congrArg _ (e)) H' _ .refl ⟨u,rfl,by rw [e];exact ru⟩)
 have pe:∀l:List String,(l.filter λw=>(look w d).isSome).map (λw=>(w,(look w d).getD (.at .none)))=jP d l:=λl=>by
  induction l with
  | nil=>rfl
  | cons w l ih=>
   unfold jP at ih ⊢
   rw [List.filter_cons,List.filterMap_cons]
   unfold jS at ih ⊢
   cases e:look w d with
   | none=>exact ih
   | some va=>show (w,(look w d).getD _)::_=_;rw [e,ih];rfl
 rw [pe] at q2
 refine ad (f3.keep qc e1) (ad e3 ⟨?_,cN λH4 f4 n4 e4=>?_⟩)
 .rw [q1.len,q2.len]
  exact aaw (aaQ (aaI h1) (List.length_filterMap_le ..)) (by decide)
 .have Ah:=f1.tr (f3.tr f4)
  exact yF e4 ((q1.imp λzz zz r=>r.mn (f3.tr f4)).append (q2.imp λzz zz r=>r.mn f4)) (.inr Ah.le) λH5 b f5 K4 rd=>h H5 b (Ah.tr f5) (aaw Ah.le K4) rd
end
noncomputable def one (b:Bool):Nat:=bif b then 1 else 0
structure cM (pn:Int) (pm:Int->Prop) (d:Di):Prop where
 nd:(d.map (·.1)).Nodup
 par:look "Parent" d=some (.at (.ref pn))
 typ:look "Type" d= .none\/look "Type" d=some (.at (.name "Page"))
 cont:look "Contents" d=some (.at (.ref 3))\/look "Contents" d=some (.at (.ref 4))
 kids:look "Kids" d= .none
 mT:∀va,look "Peer" d=some va->∃n,va= .at (.ref n)/\pm n
 vals:∀key va,look key d=some va->key ∉ ax->key≠"Parent"->key≠"Peer"->key≠"Contents"->(∃i,va= .at (.int i))\/∃s,va= .at (.name s)
 aR:∀key va,look key d=some va->key∈ax->d7 va
 ln:d.length<=9+one (look "Peer" d).isSome
theorem cM.len {pn:Int} {pm:Int->Prop} {d:Di} (p:cM pn pm d):d.length<=10:=aaw p.ln (by cases (look "Peer" d).isSome<;>decide)
theorem A9 {k:String} {v:Va} {d:Di}:(look k d).isSome=true->(cJ k v d).length=d.length:=by
 induction d with
 | nil=>exact λh=>Bool.noConfusion h
 | cons x r ih=>
  obtain ⟨j,w⟩:=x
  intro h
  by_cases q:j=k
  .rw [q,jL];rfl
  .rw [aL q] at h
   rw [jX q,aa2,ih h];rfl
theorem z0 {v:Va} {d:Di} {n:Nat} (h:d.length<=n+one (look "Peer" d).isSome):(cJ "Peer" v d).length<=n+one (look "Peer" (cJ "Peer" v d)).isSome:=by
 rw [az,if_pos rfl]
 show _<=n+1
 cases q:(look "Peer" d).isSome with
 | true=>rw [A9 q];rw [q] at h;exact h
 | false=>rw [q] at h;exact aaw b3 (aa1 h)
noncomputable def lF (pn r:Int):Di:=[("Type",.at (.name "Page")),("Parent",.at (.ref pn)),("Contents",.at (.ref (3+r)))]
theorem pG {pn r:Int} {key:String} (h1:key≠"Type") (h2:key≠"Parent") (h3:key≠"Contents"):look key (lF pn r)= .none:=by
 unfold lF
 rw [aL (abm h1),aL (abm h2),aL (abm h3)];rfl
theorem Ef {pn n:Int} {r:Nat} {d1:Di} (hr:r < 2) (f:eU (lF pn r) d1 3) (nd:(d1.map (·.1)).Nodup):cM pn (λzz=>False) (cJ "Mark" (.at (.int n)) d1):=by
 have lk:∀key,key ∉ ax->key≠"Mark"->look key (cJ "Mark" (.at (.int n)) d1)=look key (lF pn r):=λkey hk h=>by rw [az,if_neg (abm h),f.out key hk]
 refine ⟨c5 nd,(lk _ (by decide) (by decide)).trans rfl,.inr ((lk _ (by decide) (by decide)).trans rfl),?_,(lk _ (by decide) (by decide)).trans rfl,λva h=>(by replace h:=(lk "Peer" (by decide) (by decide))▸h;cases h),λkey va h h1 h2 h3 h4=>?_,λkey va h hk=>?_,aaw b3 (aaw (aa1 f.len) (aaw (by decide:7<=9) (aaM _ _)))⟩
 .rw [lk _ (by decide) (by decide)]
  exact match r,hr with
   | 0,_=>.inl rfl
   | 1,_=>.inr rfl
   | i+2,hi=>absurd hi (aaP.mpr (abn 2 i))
 .replace h:=(az)▸h
  by_cases e:"Mark"=key
  .rw [if_pos e] at h;exact .inl ⟨n,(aay h).symm⟩
  .rw [if_neg e,f.out key h1] at h
   by_cases e2:key="Type"
   .replace h:=(e2)▸h;exact .inr ⟨_,(aay h).symm⟩
   .rw [pG e2 h2 h4] at h;exact nomatch h
 .have k:=ip key hk
  have e:"Mark"≠key:=λe=>absurd (e▸hk) (by decide)
  have e3:key≠"Contents":=λe=>absurd (e▸hk) (by decide)
  rw [az,if_neg e] at h
  exact (f.Il key va h hk).elim (λq=>by rw [pG k.1.2 k.1.1 e3] at q;exact nomatch q) id
theorem cM.del {pn:Int} {d:Di} (p:cM pn (λzz=>False) d):cM pn (λzz=>False) (mU "Type" d):=by
 have lk:∀key,key≠"Type"->look key (mU "Type" d)=look key d:=λkey h=>by rw [vW p.nd,if_neg h]
 have ty:look "Type" (mU "Type" d)= .none:=by rw [vW p.nd,if_pos rfl]
 have ne:∀{key va},look key (mU "Type" d)=some va->look key d=some va:=λ{key va} h=>by
  by_cases e:key="Type"
  .rw [e,ty] at h;exact nomatch h
  .exact (lk key e)▸h
 refine ⟨(oh.map _).nodup p.nd,(lk _ (by decide)).trans p.par,.inl ty,?_,(lk _ (by decide)).trans p.kids,λva h=>p.mT va (ne h),λkey va h=>p.vals key va (ne h),λkey va h=>p.aR key va (ne h),?_⟩
 .rw [lk _ (by decide)];exact p.cont
 .rw [lk _ (by decide)];exact aaw oh.length_le p.ln
noncomputable def uM (g:mX):Nat->Prop:=λx=>x=g.p\/x=g.t\/x=g.rw
noncomputable def JR:SL:= .cons (.set "reference" (.ay (.loc "shelf") "add" (.o (.loc "head")))) (.cons (.expr (.ay (.loc "rows") "append" (.o (.tup (.cons (.loc "reference") (.o Ey)))))) (.o (.ret (.loc "reference"))))
noncomputable def NY:SL:= .cons (.bA (.cmp .eq (dQ 4) (.int 0)) (.o (.expr (.ay (.loc "head") "pop" (.o (.str "Type"))))) .nil) JR
structure MX where
 X:Nat->Prop
 H:HP
 g:mX
 hs:List (Nat × Di)
 rows:List (Int × Nat × Di)
 B:Nat
 gv:Nat
 pn:Int
 gd:Di
structure sP (c:MX):Prop where
 gi:GI c.X c.H c.g c.hs c.rows
 rg:RD (λy=>¬c.X y) c.H c.gv c.gd
 gl:c.gd.length<=30
 hX:∀x,c.X x->x < c.H.n
 hl:c.hs.length < 45
 rl:c.rows.length < 45
 hB:c.B < 50000
noncomputable def T8 (c:MX) (Q:KV):Prop:=∀H' rr hd d ff,ai (uM c.g) c.H H'->rr < H'.n->H'.g rr=cH (5+(c.hs.length:Int))->aO H' c.g.p (c.B+10)->GI c.X H' c.g (c.hs++[(hd,d)]) (c.rows++[(5+(c.hs.length:Int),ff,d5 c.gd d)])->cM c.pn (λzz=>False) d->c.H.n<=hd->c.H.n<=ff->Q (.ref rr) H'
structure UV (c:MX) (hd:Nat) (d:Di) (B:Nat) (H:HP):Prop where
 aD:ai (atS c.g.p) c.H H
 cW:aO H c.g.p B
 rd:RD (λy=>¬c.X y) H hd d
 hd:c.H.n<=hd
structure WW (c:MX) (hd:Nat) (loc:Loc):Prop where
 l0:loc "pen"= .ref c.g.p
 l1:loc "shelf"= .ref c.g.s
 l2:loc "head"= .ref hd
 l3:loc "rows"= .ref c.g.rw
 l4:loc "given"= .ref c.gv
section
variable {G:Nat->aj} {H H':HP} {Q:KV} {k B hd:Nat} {loc:Loc} {c:MX} {d:Di}
theorem sP.at (ok:sP c) (f:ai (atS c.g.p) c.H H):GI c.X H c.g c.hs c.rows:=ok.gi.mono f (λy q=>.inl q) (λzz zz h=>h) ok.gi.xp ok.gi.xt ok.gi.xr
theorem sP.fresh (ok:sP c) {x:Nat} (h:c.H.n<=x):¬c.X x:=λq=>absurd (ok.hX x q) (aaP.mpr h)
theorem sP.xg (ok:sP c) {y:Nat} (hy:¬c.X y):¬uM c.g y:=λq=>q.elim (λq=>hy (q▸ok.gi.xp)) λq=>q.elim (λq=>hy (q▸ok.gi.xt)) λq=>hy (q▸ok.gi.xr)
theorem GI.new {X:Nat->Prop} {g:mX} {hs:List (Nat × Di)} {rows:List (Int × Nat × Di)} (a:GI X H g hs rows) {x:Nat} (h:H.n<=x):x ∉ hs.map (·.1)++rows.map (·.2.1):=λq=>(aa6.mp q).elim (λq=>(aaG.mp q).elim λy z=>aaP.mpr h (z.2▸(a.heads y z.1).lt)) λq=>(aaG.mp q).elim λy z=>aaP.mpr h (z.2▸(a.gg y z.1).lt)
theorem rh (m:aQ G) (ok:sP c) (s:UV c hd d (c.B+10) H) (pg:cM c.pn (λzz=>False) d) (l:WW c hd loc) (h:T8 c Q):JR (G (k+2)) loc H (eH Q):=by
 have gi:=ok.at s.aD
 have ge:=gi.i5
 refine gi.sh.elim λtr es=>ak l.l1 (ad es (ak l.l2 (gi.add m s.rd (aax ok.gi.qe s.hd) (ok.gi.new s.hd) (aaA ok.hl (by decide)) λH7 rr f7 h7 h8 h9 Gm=>?_)))
 have Sy:ai (uM c.g) c.H H7:=(s.aD.weak λzz zz q=>Or.inl q).tr (f7.weak λzz zz q=>Or.inr (.inl q))
 refine Gm.rws.elim λvs e7=>ak l.l3 (ad e7.1 (Dr l.l4 l.l2 (ok.rg.mono Sy λy zz hy=>⟨ok.xg hy,hy⟩) (s.rd.mono f7 λy zz hy=>⟨λq=>hy ((show y=c.g.t from q)▸ok.gi.xt),hy⟩) (aaz ok.gl (by decide)) (aaz pg.len (by decide)) λH8 ff f8 OX Xy=>?_))
 have VX:=Sy.le
 have Su:=f8.lt h8
 refine (Gm.mono f8 (λy q=>q.elim) (λzz zz h=>h) Gm.xp Gm.xt Gm.xr).row Su (f8.fix h8 h9 rfl) (Xy.fA _ λy zz hy=>hy.elim id λq=>ok.fresh (aaw VX q)) (aax Gm.qe OX) (Gm.new OX) (aaA ok.rl (by decide)) λH9 f9 n9 Xr=>?_
 refine h H9 rr hd d ff ((Sy.tn f8).tr (f9.weak λzz zz q=>Or.inr (.inr q))) (f9.lt Su) (f9.fix Su (f8.fix h8 h9 rfl) rfl) (((s.cW.mono f7 (aaJ ge.pt)).mono f8 id).mono f9 (aaJ (aaA ge.pt ge.tr))) Xr pg s.hd (aaw VX OX)
theorem A7 (m:aQ G) (ok:sP c) (s:UV c hd d (c.B+8) H) (pg:cM c.pn (λzz=>False) d) (ht:look "Type" d=some (.at (.name "Page"))) (l:WW c hd loc) (h:T8 c Q):NY (G (k+2)) loc H (eH Q):=by
 refine ak l.l0 (eZ m s.cW (aaA (Nat.add_lt_add_right ok.hB 8) (by decide)) (M:=4) (by decide) (by decide) λH1 r f1 n1 gY hr=>?_)
 have s1:UV c hd d (c.B+9) H1:=⟨s.aD.tr f1,gY,s.rd.mono f1 λy zz hy=>⟨λq=>hy ((show y=c.g.p from q)▸ok.gi.xp),hy⟩,s.hd⟩
 refine yO (λzz=>?_) λzz=>rh m ok ⟨s1.aD,s1.cW.up (aba _),s1.rd,s1.hd⟩ pg l h
 refine ak l.l2 (s1.rd.at λes e lx=>s1.rd.pop ht λH2 u f2 n2 Zs=>?_)
 exact rh m ok ⟨s1.aD.Jg f2 s.hd,(s1.cW.mono f2 (aaJ (aax (aaA ok.gi.i5.pt ok.gi.tl) s.hd))).up (aba _),Zs,s.hd⟩ pg.del l h
end
section
variable {G:Nat->aj} {H H':HP} {Q:KV} {k B hd:Nat} {loc:Loc} {c:MX} {d:Di}
theorem G5 (m:aQ G) (ok:sP c) {pv:AV} (cW:aO c.H c.g.p c.B) (rp:RA c.H pv (.ref c.pn)) (h:T8 c Q):G (k+4) "_law_page" [.ref c.g.p,.ref c.g.s,.ref c.g.ow,pv,.ref c.gv,.ref c.g.rw] c.H Q:=by
 have ge:=ok.gi.i5
 have wp:=aaA ge.pt ge.to
 refine m.run 46 rfl rfl rfl (fX m λH1 f1 n1 e1=>mG (RA.set rp) (eZ m (cW.mono f1 id) (aaA ok.hB (by decide)) (M:=2) (by decide) (by decide) λH2 r f2 n2 mQ hr=>?_))
 have P0:ai (atS c.g.p) c.H H2:=f1.no.tr f2
 have Nd:=ok.gi.own.mono P0 (aaN wp)
 have hi:CK[((2:Int)+r).toNat]? =some (.ref (3+r))/\qF ((2:Int)+r)=true:=match r,hr with
  | 0,_=>⟨rfl,rfl⟩
  | 1,_=>⟨rfl,rfl⟩
  | i+2,hi=>absurd hi (aaP.mpr (abn 2 i))
 refine Nd.2.elim λovs o=>(o.2.get hi.1).elim λu w=>ad o.1 (KO hi.2 (dF (v:=u) w.1 ?_))
 have l1:c.H.n < H1.n:=n1▸aaC _
 refine gV (P:=λy=>¬c.X y) (P':=λy=>¬c.X y) (d:=lF c.pn r) (.cons ⟨rfl,c.H.n,rfl,f2.lt l1,f2.fix l1 e1 rfl⟩ (.cons ⟨rfl,RA.mono P0 rp⟩ (.cons ⟨rfl,w.2⟩ .nil))) (by decide:["Type","Parent","Contents"].Nodup) (ok.fresh P0.le) (λzz zz h=>h) λH3 f3 n3 r3=>?_
 have Kq:=P0.tn f3
 have wX:c.H.n<=H2.n:=P0.le
 have O8:H2.n≠c.g.p:=aaN (aax (aaA ge.pt ok.gi.tl) wX)
 refine CJ m (c:=⟨λy=>¬c.X y,c.g.p,H2.n,c.g.ow,H3,lF c.pn r⟩) (B:=c.B+1) ⟨λx hx q=>hx (q▸ok.gi.xp),λx hx=>ok.fresh (aaw Kq.le hx),O8,aaN (aax (aaA ge.G7 ok.gi.qe) wX),aaN wp,(by decide:3 < 50)⟩ ⟨.refl,mQ.mono f3 id,Nd.mono f3 id,r3,.refl⟩ (aaA (abv ok.hB) (by decide)) λH4 d1 s4=>?_
 have WH:ai (atS c.g.p) c.H H4:=Kq.trans s4.aD λa ha q=>q.elim id λq=>absurd ha (aaP.mpr ((show a=H2.n from q)▸wX))
 refine (ok.at WH).rws.elim λvs e4=>ad e4.1 (s4.rd.set (va:= .at (.int vs.length)) rfl (aaz s4.fo.len (by decide:6 < lim)) λH5 f5 n5 r5=>?_)
 exact A7 m ok ⟨WH.Jg f5 wX,s4.cW.mono f5 (abm O8),r5,wX⟩ (Ef (n:=(vs.length:Int)) hr s4.fo s4.rd.nd) (by rw [az,if_neg (by decide),s4.fo.out _ (by decide)];rfl) ⟨rfl,rfl,rfl,rfl,rfl⟩ h
end
structure rZ (ks:List Int) (d:Di):Prop where
 nd:(d.map (·.1)).Nodup
 typ:look "Type" d=some (.at (.name "Pages"))
 kids:look "Kids" d=some (.arr (ks.map At.ref))
 vals:∀key va,look key d=some va->key ∉ ax->key≠"Kids"->(∃i,va= .at (.int i))\/(∃s,va= .at (.name s))\/∃n,va= .at (.ref n)
 aR:∀key va,look key d=some va->key∈ax->d7 va
 len:d.length<=12
 kl:ks.length<=10
structure lL (gd:Di):Prop where
 nd:(gd.map (·.1)).Nodup
 out:∀key,key ∉ ax->look key gd= .none
 Il:∀key va,look key gd=some va->d7 va
 len:gd.length<=30
structure Ry (pm:Int->Prop) (gd d fd:Di):Prop where
 pg:∃pn,cM pn pm d
 look:∀key,look key fd=look key (d5 gd d)
 len:fd.length<=50+one (Pap.look "Peer" fd).isSome
noncomputable def GW (f:Int->Option Di) (pm:Int->Prop):List Int->List (Int × Di)->List (Int × Di)->Prop
 | [],st,rows=>st=[]/\rows=[]
 | n::ns,st,rows=>∃gd d i7,st=(n,gd)::i7/\(f n=some d/\lL gd)/\((∃fd rows0,rows=(n,fd)::rows0/\Ry pm gd d fd/\GW f pm ns i7 rows0)\/∃ks,rZ ks d/\GW f pm ns (ks.map (λx=>(x,b0 gd d))++i7) rows)
section
variable {f f':Int->Option Di} {pm:Int->Prop} {ns ug:List Int}
theorem GW.congr:∀{st rows:List (Int × Di)},GW f pm ns st rows->(∀n∈ns,f' n=f n)->GW f' pm ns st rows:=by
 induction ns with
 | nil=>exact λw zz=>w
 | cons n ns ih=>
  intro st rows w h
  have h':=λx hx=>h x (.tail _ hx)
  exact w.imp λgd w=>w.imp λd w=>w.imp λi7 w=>⟨w.1,⟨(h n (.head _)).trans w.2.1.1,w.2.1.2⟩,w.2.2.imp (λw=>w.imp λfd w=>w.imp λr0 w=>⟨w.1,w.2.1,ih w.2.2 h'⟩) λw=>w.imp λks w=>⟨w.1,ih w.2 h'⟩⟩
theorem GW.app {ye aF:List (Int × Di)} (w':GW f pm ug ye aF):∀{st rows:List (Int × Di)},GW f pm ns st rows->GW f pm (ns++ug) (st++ye) (rows++aF):=by
 induction ns with
 | nil=>exact λ{st rows} w=>by rw [w.1,w.2];exact w'
 | cons n ns ih=>
  refine λ{st rows} w=>w.imp λgd w=>w.imp λd w=>w.elim λi7 w=>⟨i7++ye,by rw [w.1];rfl,w.2.1,w.2.2.imp (λw=>w.imp λfd w=>w.elim λr0 w=>⟨r0++aF,by rw [w.1];rfl,w.2.1,ih w.2.2⟩) λw=>w.imp λks w=>⟨w.1,?_⟩⟩
  rw [<-aaW];exact ih w.2
theorem GW.rows:∀{st rows:List (Int × Di)},GW f pm ns st rows->∀x∈rows,x.1∈ns:=by
 induction ns with
 | nil=>exact λ{st rows} w x h=>(aaU (w.2▸h)).elim
 | cons n ns ih=>
  exact λ{st rows} w x h=>bj w λgd d i7 w=>w.2.2.elim (λw=>aq w λfd r0 w=>(aaH.mp (w.1▸h:x∈(n,fd)::r0)).elim (λe=>(congrArg Prod.fst e:x.1=n)▸ .head _) λh=>.tail _ (ih w.2.2 x h)) λw=>w.elim λks w=>.tail _ (ih w.2 x h)
end
noncomputable def kD (hs:List (Nat × Di)) (n:Int):Option Di:=if 5<=n then (hs[(n - 5).toNat]?).map (·.2) else .none
theorem AF {a b:List (Nat × Di)} {n:Int} (h:n < 5+a.length):kD (a++b) n=kD a n:=by
 unfold kD
 by_cases q:5<=n
 .rw [if_pos q,if_pos q,abz (zt q h)]
 .rw [if_neg q,if_neg q]
theorem zW {hs:List (Nat × Di)} {i:Nat}:kD hs (5+(i:Int))=(hs[i]?).map (·.2):=by
 unfold kD
 rw [if_pos (Int.le_add_of_nonneg_right (aa0 _)),show (5+(i:Int) - 5).toNat=i from congrArg Int.toNat (Yx 5 _)]
theorem kO {a b:List (Nat × Di)} {x:Nat × Di}:kD (a++x::b) (5+(a.length:Int))=some x.2:=by
 rw [zW,List.getElem?_append_right (aaF _),Nat.sub_self];rfl
theorem Ds {a b:List (Nat × Di)} {x y:Nat × Di} {n:Int} (h:n≠5+(a.length:Int)):kD (a++x::b) n=kD (a++y::b) n:=by
 unfold kD
 by_cases q:5<=n
 .rw [if_pos q,if_pos q]
  refine congrArg _ ?_
  by_cases q2:(n - 5).toNat < a.length
  .rw [abz q2,abz q2]
  .have le:=aaP.mp q2
   rw [List.getElem?_append_right le,List.getElem?_append_right le]
   cases e:(n - 5).toNat - a.length with
   | zero=>exact absurd (Nat.le_antisymm (Nat.sub_eq_zero_iff_le.mp e) le) ((λe=>h (e▸(zu q).symm)))
   | succ j=>rfl
 .rw [if_neg q,if_neg q]
noncomputable def nums (L m:Nat):List Int:=(List.range' L m).map λ(i:Nat)=>5+(i:Int)
theorem FU {L a b:Nat}:nums L (a+b)=nums L a++nums (L+a) b:=by
 unfold nums
 rw [<-aaL,List.range'_append_1]
theorem dS {L m:Nat} {n:Int}:n∈nums L m ↔ 5+(L:Int)<=n/\n < 5+(L:Int)+m:=by
 unfold nums
 rw [aaG]
 refine ⟨λz=>z.elim λi z=>?_,λz=>⟨(n - 5).toNat,List.mem_range'_1.mpr (⟨(Int.le_toNat (Int.sub_nonneg_of_le (z5 z.1))).mpr (Int.le_sub_left_of_add_le z.1),zt (z5 z.1) (tS z.2 (Int.add_assoc _ _ _))⟩),zu (z5 z.1)⟩⟩
 have:=List.mem_range'_1.mp z.1
 exact Pp z.2 this.1 this.2
theorem Ab {L m:Nat}:(nums L m).Nodup:=List.Pairwise.map _ (λa b (h:a < b) e=>by have e:5+(a:Int)=5+b:=e;exact aaJ h (qD (Int.add_left_cancel (by assumption)))) (List.pairwise_lt_range' ..)
noncomputable def db (rows:List (Int × Nat × Di)):List (Int × Di):=rows.map λx=>(x.1,x.2.2)
theorem Cf {a b:List (Int × Nat × Di)}:db (a++b)=db a++db b:=aaL
section
variable {H H':HP} {X P:Nat->Prop} {g:mX} {hs b9:List (Nat × Di)} {rows aF:List (Int × Nat × Di)}
theorem RD.other {a b:Nat} {d:Di} {es:List (AV × AV)} (r:RD P H a d) (f:ai (atS b) H H') (e:H.g b= .dict es) (ne:a≠b):RD P H' a d:=⟨f.lt r.lt,r.zone,r.ex.imp λzz q=>⟨f.ne r.lt q.1 ne,q.2.imp λzz zz z=>⟨z.1,z.2.upd f e⟩⟩,r.nd⟩
noncomputable def BT (x:Int × Nat × Di):Int × Nat:=(x.1,x.2.1)
theorem IY {vs:List AV} (l:L2 (wb H) vs rows) (e:aF.map BT=rows.map BT):L2 (wb H) vs aF:=L2.EG (r:=λv (p:Int × Nat)=>wb H v (p.1,p.2,[])) (f:=BT) (e▸L2.xq (r:=λv (p:Int × Nat)=>wb H v (p.1,p.2,[])) (f:=BT) l)
theorem GI.alter (a:GI X H g hs rows) {b:Nat} (f:ai (atS b) H H') (hb:g.rw < b) (e1:b9.map (·.1)=hs.map (·.1)) (e2:aF.map BT=rows.map BT) (hh:∀x∈b9,RD (λy=>¬X y) H' x.1 x.2) (hf:∀x∈aF,RD (λy=>¬X y) H' x.2.1 x.2.2):GI X H' g b9 aF:=by
 have ge:=a.i5
 have nb:∀{y},y<=g.rw->y≠b:=λh=>aaJ (aaz h hb)
 have e3:aF.map (·.2.1)=rows.map (·.2.1):=by
  have:=congrArg (List.map (·.2)) e2
  rwa [aa5,aa5] at this
 have l1:=congrArg List.length e1
 have l2:=congrArg List.length e2
 rw [aaB,aaB] at l1 l2
 exact ⟨ge,f.lt a.qe,a.sh.imp λzz e=>f.ne a.sl e (nb (aaI (aaA ge.st ge.tr))),a.tab.imp λwY e=>⟨f.ne a.tl (by rw [B2 e1];exact e.1) (nb (aaI ge.tr)),e.2.imp λzz zz r=>r.mono f λy zz hy=>⟨nb (aaw (aaI hy.2) (aaw ge.ho (aaI ge.G7))),hy⟩⟩,a.own.mono f (nb (aaI ge.G7)),a.rws.imp λzz e=>⟨f.ne a.qe e.1 (nb (aaF _)),IY (e.2.imp λzz zz r=>r.mono f) e2⟩,hh,hf,by rw [e1,e3];exact a.nd,
  λx hx=>(aaG.mp (e1▸aaG.mpr ⟨x,hx,rfl⟩:x.1∈hs.map (·.1))).elim λy z=>z.2▸a.jR y z.1,λx hx=>(aaG.mp (e3▸aaG.mpr ⟨x,hx,rfl⟩:x.2.1∈rows.map (·.2.1))).elim λy z=>z.2▸a.Jo y z.1,a.xp,a.xt,a.xr,l1▸a.hl,l2▸a.rl⟩
theorem AD {α:Type} {a b:List α} {x y:α} (h:y∈a++x::b):y=x\/y∈a++b:=(aa6.mp h).elim (λq=>.inr (aa3 _ q)) λq=>(aaH.mp q).imp id (aaT _)
theorem GI.setHead {ha hb:List (Nat × Di)} {hd:Nat} {d:Di} (a:GI X H g (ha++(hd,d)::hb) rows) {key:String} {u:AV} {va:Va} (ru:RV (λy=>¬X y) H u va) (hl:d.length < lim) {F:HP->Prop}
  (k:∀H',ai (atS hd) H H'->H'.n=H.n->GI X H' g (ha++(hd,cJ key va d)::hb) rows->F H'):ob (H.g hd) (wi hd (.str key) u H F):=by
 have hm:(hd,d)∈ha++(hd,d)::hb:=aaT _ (.head _)
 have rd:=a.heads _ hm
 have nd:=a.nd
 rw [aaL,aa4,aaW] at nd
 have no:=(aa8.mp (List.perm_middle.nodup_iff.mp nd)).1
 refine rd.set ru hl λH' f n r=>rd.ex.elim λes e=>k H' f n (a.alter f (a.jR _ hm) (by rw [aaL,aaL];rfl) rfl (λx hx=>(AD hx).elim (λq=>q▸r) λq=>?_) λx hx=>(a.gg x hx).other f e.1 λq=>no (q▸aaT _ (aaT _ (aaG.mpr ⟨x,hx,rfl⟩))))
 refine (a.heads x ((aa6.mp q).elim (aa3 _) λq=>aaT _ (.tail _ q))).other f e.1 λz=>no (z▸ ?_)
 exact (aa6.mp q).elim (λq=>aa3 _ (aaG.mpr ⟨x,q,rfl⟩)) λq=>aaT _ (aa3 _ (aaG.mpr ⟨x,q,rfl⟩))
theorem GI.KM {ra rb:List (Int × Nat × Di)} {n:Int} {ff:Nat} {fd:Di} (a:GI X H g hs (ra++(n,ff,fd)::rb)) {key:String} {u:AV} {va:Va} (ru:RV (λy=>¬X y) H u va) (hl:fd.length < lim) {F:HP->Prop}
  (k:∀H',ai (atS ff) H H'->H'.n=H.n->GI X H' g hs (ra++(n,ff,cJ key va fd)::rb)->F H'):ob (H.g ff) (wi ff (.str key) u H F):=by
 have hm:(n,ff,fd)∈ra++(n,ff,fd)::rb:=aaT _ (.head _)
 have rd:=a.gg _ hm
 have nd:=a.nd
 rw [aaL,aa4,<-aaW] at nd
 have no:=(aa8.mp (List.perm_middle.nodup_iff.mp nd)).1
 refine rd.set ru hl λH' f m r=>rd.ex.elim λes e=>k H' f m (a.alter f (a.Jo _ hm) rfl (by rw [aaL,aaL];rfl) (λx hx=>(a.heads x hx).other f e.1 λq=>no (q▸aa3 _ (aa3 _ (aaG.mpr ⟨x,hx,rfl⟩)))) λx hx=>(AD hx).elim (λq=>q▸r) λq=>?_)
 refine (a.gg x ((aa6.mp q).elim (aa3 _) λq=>aaT _ (.tail _ q))).other f e.1 λz=>no (z▸ ?_)
 exact (aa6.mp q).elim (λq=>aa3 _ (aaT _ (aaG.mpr ⟨x,q,rfl⟩))) λq=>aaT _ (aaG.mpr ⟨x,q,rfl⟩)
end
noncomputable def uN:Nat->Nat
 | 0=>3
 | d+1=>1+2*uN d
noncomputable def bT:Nat->Nat
 | 0=>1
 | d+1=>uN d
theorem wd {d:Nat}:uN d=1+2*bT d:=by cases d<;>rfl
theorem uA {d:Nat}:1<=bT d:=by
 cases d with
 | zero=>exact aaF _
 | succ d=>show 1<=uN d;exact (wd)▸aaM ..
section
variable {gd d d' d1 d2:Di}
theorem vD (h:∀key∈wy,look key d=look key d'):b0 gd d=b0 gd d':=by
 have:∀l:List String,(∀key∈l,look key d=look key d')->jP d l=jP d' l:=λl=>by
  induction l with
  | nil=>exact λzz=>rfl
  | cons k r ih=>
   intro h
   show List.filterMap (jS d) (k::r)=List.filterMap (jS d') (k::r)
   rw [List.filterMap_cons,List.filterMap_cons,show List.filterMap (jS d) r=_ from ih λx hx=>h x (.tail _ hx)]
   unfold jS jP
   rw [h k (.head _)];rfl
 unfold b0
 rw [this wy h]
theorem Dh (h:lL gd) (hi:∀key va,look key d=some va->key∈ax->d7 va) (hl:gd.length<=26):lL (b0 gd d):=by
 refine ⟨DS,λkey hk=>?_,λkey va hv=>?_,aaw qN (abb hl 4)⟩
 .rw [jj h.nd,if_neg hk];exact h.out key hk
 .rw [jj h.nd] at hv
  by_cases q:key∈ax
  .replace hv:=(if_pos q)▸hv
   cases e:look key d with
   | none=>replace hv:=(e)▸hv;exact h.Il key va hv
   | some v=>rw [e] at hv;exact hi key va (e.trans hv) q
  .replace hv:=(if_neg q)▸hv;exact h.Il key va hv
noncomputable def pI:Di:=[("Type",.at (.name "Pages"))]
noncomputable def gT (ks:List Int) (c:Int) (d:Di):Di:=cJ "Count" (.at (.int c)) (cJ "Kids" (.arr (ks.map At.ref)) d)
structure j8 (d:Di):Prop where
 nd:(d.map (·.1)).Nodup
 typ:look "Type" d=some (.at (.name "Pages"))
 vals:∀key va,look key d=some va->key ∉ ax->(∃i,va= .at (.int i))\/(∃s,va= .at (.name s))\/∃n,va= .at (.ref n)
 aR:∀key va,look key d=some va->key∈ax->d7 va
 len:d.length<=5
theorem Gf (f:eU pI d1 3) (nd:(d1.map (·.1)).Nodup):j8 d1/\d1.length<=4:=by
 refine ⟨⟨nd,(f.out _ (by decide)).trans rfl,λkey va h hk=>?_,λkey va h hk=>(f.Il key va h hk).elim (λq=>?_) id,abx f.len⟩,f.len⟩
 .rw [f.out key hk] at h
  by_cases e:"Type"=key
  .rw [<-e] at h;exact .inr (.inl ⟨_,(aay h).symm⟩)
  .rw [pI,aL e] at h;cases h
 .rw [pI,aL (abm (ip key hk).1.2)] at q;cases q
theorem j8.par {pn:Int} (h:j8 d1) (hl:d1.length<=4):j8 (cJ "Parent" (.at (.ref pn)) d1):=by
 refine ⟨c5 h.nd,by rw [az,if_neg (by decide)];exact h.typ,λkey va e hk=>?_,λkey va e hk=>?_,aaw b3 (aa1 hl)⟩
 .rw [az] at e
  by_cases q:"Parent"=key
  .rw [if_pos q] at e;exact .inr (.inr ⟨pn,(aay e).symm⟩)
  .rw [if_neg q] at e;exact h.vals key va e hk
 .rw [az,if_neg λq:"Parent"=key=>absurd (q▸hk) (by decide)] at e
  exact h.aR key va e hk
theorem uq {ks:List Int} {c:Int} {key:String} (hk:key∈ax):look key (gT ks c d)=look key d:=by
 unfold gT
 rw [az,if_neg λq:"Count"=key=>absurd (q▸hk) (by decide),az,if_neg λq:"Kids"=key=>absurd (q▸hk) (by decide)]
theorem C5 {ks:List Int} {c:Int} (h:j8 d) (hk:ks.length<=10):rZ ks (gT ks c d):=by
 refine ⟨c5 (c5 h.nd),?_,?_,λkey va e h1 h2=>?_,λkey va e h1=>h.aR key va (uq h1▸e) h1,?_,hk⟩
 .unfold gT;rw [az,if_neg (by decide),az,if_neg (by decide)];exact h.typ
 .unfold gT;rw [az,if_neg (by decide),az,if_pos rfl]
 .unfold gT at e
  rw [az] at e
  by_cases q:"Count"=key
  .rw [if_pos q] at e;exact .inl ⟨c,(aay e).symm⟩
  .rw [if_neg q,az,if_neg (abm h2)] at e;exact h.vals key va e h1
 .exact aaw b3 (aaw (aa1 b3) (aaw (aa1 (aa1 h.len)) (by decide)))
end
structure Vb (X:Nat->Prop) (g:mX) (Hc:HP) (hs:List (Nat × Di)) (rows:List (Int × Nat × Di)) (gd:Di) (B C lo:Nat) (H':HP) (rr:Nat) (b9:List (Nat × Di)) (aF:List (Int × Nat × Di)):Prop where
 aD:ai (uM g) Hc H'
 lt:rr < H'.n
 at_:H'.g rr=cH (5+(hs.length:Int))
 cW:aO H' g.p B
 gi:GI X H' g (hs++b9) (rows++aF)
 l1:lo<=b9.length
 l2:b9.length<=C
 r1:1<=aF.length
 r2:aF.length<=C
 gw:GW (kD (hs++b9)) (λzz=>False) (nums hs.length b9.length) [(5+(hs.length:Int),gd)] (db aF)
noncomputable def TL (X:Nat->Prop) (g:mX) (Hc:HP) (hs:List (Nat × Di)) (rows:List (Int × Nat × Di)) (gd:Di) (B C lo:Nat) (Q:KV):Prop:=∀H' rr b9 aF,Vb X g Hc hs rows gd B C lo H' rr b9 aF->Q (.ref rr) H'
structure NT (deep:Nat) (X:Nat->Prop) (H:HP) (g:mX) (hs:List (Nat × Di)) (rows:List (Int × Nat × Di)) (B gv:Nat) (gd:Di):Prop where
 gi:GI X H g hs rows
 cW:aO H g.p B
 hB:B+100*uN deep < 40000
 rd:RD (λy=>¬X y) H gv gd
 Zg:lL gd
 gl:gd.length+4*deep<=20
 hX:∀x,X x->x < H.n
 h1:hs.length+uN deep<=44
 h2:rows.length+uN deep<=44
noncomputable def my (G:Nat->aj) (deep:Nat):Prop:=∀(k:Nat) (X:Nat->Prop) (H:HP) (g:mX) (hs:List (Nat × Di)) (rows:List (Int × Nat × Di)) (B gv:Nat) (pv:AV) (gd:Di) (Q:KV),NT deep X H g hs rows B gv gd->(pv= .none\/∃pn,RA H pv (.ref pn))->TL X g H hs rows gd (B+100*uN deep) (uN deep) 2 Q->
 G (k+deep+6) "_law_node" [.ref g.p,.ref g.s,.ref g.ow,pv,.ref gv,.int deep,.ref g.rw] H Q
structure Fk where
 X:Nat->Prop
 g:mX
 H:HP
 hs:List (Nat × Di)
 rows:List (Int × Nat × Di)
 B:Nat
 bv:Nat
 bd:Di
 kl:Nat
 rf:Nat
 fn:Int
 deep:Nat
 vs:List AV
 hd:Nat
 n0:Int
structure lQ (c:Fk):Prop where
 gi:GI c.X c.H c.g c.hs c.rows
 cW:aO c.H c.g.p c.B
 hB:c.B+100*bT c.deep+20 < 40000
 ra:RA c.H (.ref c.rf) (.ref c.fn)
 rb:RD (λy=>¬c.X y) c.H c.bv c.bd
 gb:lL c.bd
 gl:c.bd.length+4*c.deep<=24
 hX:∀x,c.X x->x < c.H.n
 C9:c.kl < c.H.n
 xk:c.X c.kl
 gk:c.g.rw < c.kl
 ek:c.H.g c.kl= .list c.vs
 vl:c.vs.length < 10
 h1:c.hs.length+bT c.deep<=44
 h2:c.rows.length+bT c.deep<=44
structure Rp (c:Fk) (loc:Loc):Prop where
 l0:loc "pen"= .ref c.g.p
 l1:loc "shelf"= .ref c.g.s
 l2:loc "own"= .ref c.g.ow
 l3:loc "reference"= .ref c.rf
 l4:loc "below"= .ref c.bv
 l5:loc "deep"= .int c.deep
 l6:loc "rows"= .ref c.g.rw
 l7:loc "kids"= .ref c.kl
 l8:loc "head"= .ref c.hd
 l9:loc "count"= .int c.n0
noncomputable def Mf (c:Fk):Nat->Prop:=λx=>uM c.g x\/x=c.kl
structure Q4 (c:Fk) (H':HP) (rr:Nat) (b9:List (Nat × Di)) (aF:List (Int × Nat × Di)):Prop where
 aD:ai (Mf c) c.H H'
 ra:RA H' (.ref rr) (.ref (5+(c.hs.length:Int)))
 cW:aO H' c.g.p (c.B+100*bT c.deep+20)
 gi:GI c.X H' c.g (c.hs++b9) (c.rows++aF)
 l1:1<=b9.length
 l2:b9.length<=bT c.deep
 r1:1<=aF.length
 r2:aF.length<=bT c.deep
 gw:GW (kD (c.hs++b9)) (λzz=>False) (nums c.hs.length b9.length) [(5+(c.hs.length:Int),c.bd)] (db aF)
 e:H'.g c.kl= .list (c.vs++[.ref rr])
section
variable {G:Nat->aj} {H H' Hc:HP} {Q:KV} {QS:KS} {k B C lo:Nat} {loc:Loc} {c:Fk}
theorem lQ.kp (ok:lQ c):c.kl≠c.g.p:=aaN (aaA (aaA ok.gi.i5.pt ok.gi.i5.tr) ok.gk)
theorem lQ.nk (ok:lQ c):¬uM c.g c.kl:=λq=>q.elim ok.kp λq=>q.elim (aaN (aaA ok.gi.i5.tr ok.gk)) (aaN ok.gk)
theorem lQ.fin (ok:lQ c) (fc:ai (atS c.g.p) c.H Hc) (hB:B<=c.B+100*bT c.deep+20) (hC:C<=bT c.deep) (OV:1<=lo) (h:∀H' rr b9 aF,Q4 c H' rr b9 aF->QS .next loc H'):
  TL c.X c.g Hc c.hs c.rows c.bd B C lo λv H'=>Gx c.kl "append" (C7 loc QS) [v] H':=λH' rr b9 aF r=>by
 have W1:=r.aD.at (fc.lt ok.C9) ok.nk (fc.ne ok.C9 ok.ek ok.kp)
 refine ad W1 ⟨aaA ok.vl (by decide),ng W1 λH2 f2 n2 e2=>h H2 rr b9 aF ⟨((fc.weak λzz zz q=>Or.inl (.inl q)).tr (r.aD.weak λzz zz q=>Or.inl q)).tr (f2.weak λzz zz q=>Or.inr q),⟨rr,rfl,f2.lt r.lt,f2.fix r.lt r.at_ rfl⟩,(r.cW.up hB).mono f2 (abm ok.kp),?_,aaw OV r.l1,aaw r.l2 hC,r.r1,aaw r.r2 hC,r.gw,e2⟩⟩
 exact r.gi.mono f2 (λy q=>.inr ((show y=c.kl from q)▸⟨ok.gk,ok.xk⟩)) (λzz zz h=>h) r.gi.xp r.gi.xt r.gi.xr
end
noncomputable def NN (e:X):S:= .expr (.ay (.loc "kids") "append" (.o e))
noncomputable def EJ:X:= .call "_law_node" (.cons (.loc "pen") (.cons (.loc "shelf") (.cons (.loc "own") (.cons (.loc "reference") (.cons (.loc "below") (.cons (.bin .sub (.loc "deep") (.int 1)) (.o (.loc "rows"))))))))
noncomputable def EL:X:= .call "_law_page" (.cons (.loc "pen") (.cons (.loc "shelf") (.cons (.loc "own") (.cons (.loc "reference") (.cons (.loc "below") (.o (.loc "rows")))))))
noncomputable def ul:SL:= .o (.bA (.and (.cmp .gt (.loc "deep") (.int 0)) (.cmp .eq (dQ 2) (.int 0))) (.o (NN EJ)) (.o (NN EL)))
noncomputable def P6 (c:Fk) (loc:Loc) (QS:KS):KV:=λv H'=>Gx c.kl "append" (C7 loc QS) [v] H'
section
variable {G:Nat->aj} {H H' Hc:HP} {Q:KV} {QS:KS} {k B:Nat} {loc:Loc} {c:Fk}
theorem lQ.at (ok:lQ c) (fc:ai (atS c.g.p) c.H Hc):GI c.X Hc c.g c.hs c.rows:=ok.gi.mono fc (λy q=>.inl q) (λzz zz h=>h) ok.gi.xp ok.gi.xt ok.gi.xr
theorem lQ.WF (ok:lQ c) (fc:ai (atS c.g.p) c.H Hc):RD (λy=>¬c.X y) Hc c.bv c.bd:=ok.rb.mono fc λy zz hy=>⟨λq=>hy ((show y=c.g.p from q)▸ok.gi.xp),hy⟩
theorem wf (m:aQ G) (ok:lQ c) (fc:ai (atS c.g.p) c.H Hc) (cW:aO Hc c.g.p B) (hB:B<=c.B+1) (h:∀H' rr b9 aF,Q4 c H' rr b9 aF->QS .next loc H'):G (k+4) "_law_page" [.ref c.g.p,.ref c.g.s,.ref c.g.ow,.ref c.rf,.ref c.bv,.ref c.g.rw] Hc (P6 c loc QS):=by
 have cp:= @uA c.deep
 refine G5 m (c:=⟨c.X,Hc,c.g,c.hs,c.rows,B,c.bv,c.fn,c.bd⟩) ⟨ok.at fc,ok.WF fc,ok.gb.len,λx hx=>fc.lt (ok.hX x hx),aax (aax (abl cp) ok.h1) (by decide),aax (aax (abl cp) ok.h2) (by decide),by show B < 50000;exact zF (aaQ hB ok.hB) (by simp+arith)⟩ cW (RA.mono fc ok.ra) λH' rr hd d ff f1 q1 q2 q3 q4 pg zz zz=>?_
 refine ok.fin fc (B:=B+10) (zF hB (by simp+arith)) cp (aaF 1) h H' rr [(hd,d)] [(5+(c.hs.length:Int),ff,d5 c.bd d)] ⟨f1,q1,q2,q3,q4,aaF _,aaF _,aaF _,aaF _,c.bd,d,[],rfl,⟨kO,ok.gb⟩,.inl (bH (d5 c.bd d) ([]) ⟨rfl,⟨⟨c.fn,pg⟩,λzz=>rfl,?_⟩,rfl,rfl⟩)⟩
 refine aaw ?_ (aaM _ _)
 unfold d5
 rw [aaD]
 exact aaw (aaQ (aaw (List.length_filter_le ..) ok.gb.len) pg.len) (by decide)
theorem Cg (m:aQ G) (ok:lQ c) (ih:∀d,c.deep=d+1->my G d) (l:Rp c loc) (h:∀H' rr b9 aF,Q4 c H' rr b9 aF->QS .next loc H'):ul (G (k+c.deep+5)) loc c.H QS:=by
 have hB:=ok.hB
 refine ak l.l5 (yO (λMy=>?_) λzz=>?_)
 .refine ak l.l0 (eZ m ok.cW (zF hB (by simp+arith)) (M:=2) (by decide) (by decide) λHc r fc n1 OP hr=>yO (λzz=>?_) λzz=>?_)
  .obtain ⟨d,e⟩:∃d,c.deep=d+1:=⟨c.deep - 1,(Nat.sub_add_cancel (Int.natCast_pos.mp My)).symm⟩
   have Pn:(c.deep:Int) - 1=(d:Int):=((congrArg (λx:Nat=>(x:Int) - 1) e).trans (Int.add_sub_cancel (Nat.cast _) 1))
   have hc:bT c.deep=uN d:=by rw [e];rfl
   have h1:=ok.h1
   have h2:=ok.h2
   rw [hc] at h1 h2 hB
   have:=ih d e k c.X Hc c.g c.hs c.rows (c.B+1) c.bv (.ref c.rf) c.bd (P6 c loc QS) ⟨ok.at fc,OP,zF hB (by simp+arith),ok.WF fc,ok.gb,Qe Pn ok.gl,λx hx=>fc.lt (ok.hX x hx),h1,h2⟩ (.inr ⟨c.fn,RA.mono fc ok.ra⟩) (ok.fin fc (by rw [hc];exact by simp+arith) (aaS hc.symm) (by decide) h)
   rw [<-Pn] at this
   refine ak l.l7 (ad (fc.ne ok.C9 ok.ek ok.kp) (ak l.l0 (ak l.l1 (ak l.l2 (ak l.l3 (ak l.l4 (ak l.l5 (ak l.l6 ?_))))))))
   rw [e] at this ⊢
   exact this
  .exact ak l.l7 (ad (fc.ne ok.C9 ok.ek ok.kp) (ak l.l0 (ak l.l1 (ak l.l2 (ak l.l3 (ak l.l4 (ak l.l6 (wf m ok fc OP (aaF _) h))))))))
 .exact ak l.l7 (ad ok.ek (ak l.l0 (ak l.l1 (ak l.l2 (ak l.l3 (ak l.l4 (ak l.l6 (wf m ok .refl ok.cW (aba _) h))))))))
end
theorem GW.up {pm:Int->Prop} {st rows:List (Int × Di)} {L m:Nat} {hs more:List (Nat × Di)} (w:GW (kD hs) pm (nums L m) st rows) (hl:hs.length=L+m):GW (kD (hs++more)) pm (nums L m) st rows:=
 w.congr λn hn=>AF (by have:=dS.mp hn;exact Qn hl this.1 this.2)
structure LL (c:Fk) (j:Nat) (ks:List Int) (kvs:List AV) (g0:List (Nat × Di)) (bV:List (Int × Nat × Di)) (loc:Loc) (H:HP):Prop where
 aD:ai (Mf c) c.H H
 cW:aO H c.g.p (c.B+1+j*(100*bT c.deep+20))
 gi:GI c.X H c.g (c.hs++g0) (c.rows++bV)
 ek:H.g c.kl= .list kvs
 rk:L2 (RA H) kvs (ks.map At.ref)
 kl:ks.length=j
 l2:g0.length<=j*bT c.deep
 r1:j<=bV.length
 r2:bV.length<=j*bT c.deep
 gw:GW (kD (c.hs++g0)) (λzz=>False) (nums c.hs.length g0.length) (ks.map λx=>(x,c.bd)) (db bV)
 l:Rp c loc
structure HH (c:Fk):Prop where
 gi:GI c.X c.H c.g c.hs c.rows
 cW:aO c.H c.g.p c.B
 hB:c.B+200*bT c.deep+60 < 40000
 ra:RA c.H (.ref c.rf) (.ref c.fn)
 rb:RD (λy=>¬c.X y) c.H c.bv c.bd
 gb:lL c.bd
 gl:c.bd.length+4*c.deep<=24
 hX:∀x,c.X x->x < c.H.n
 C9:c.kl < c.H.n
 xk:c.X c.kl
 gk:c.g.rw < c.kl
 ek:c.H.g c.kl= .list []
 h1:c.hs.length+2*bT c.deep<=44
 h2:c.rows.length+2*bT c.deep<=44
section
variable {G:Nat->aj} {H:HP} {QS:KS} {k:Nat} {loc:Loc} {c:Fk}
theorem HH.turn (ok:HH c) {j:Nat} {ks:List Int} {kvs:List AV} {g0:List (Nat × Di)} {bV:List (Int × Nat × Di)} (hj:j < 2) (I:LL c j ks kvs g0 bV loc H):lQ ⟨c.X,c.g,H,c.hs++g0,c.rows++bV,c.B+1+j*(100*bT c.deep+20),c.bv,c.bd,c.kl,c.rf,c.fn,c.deep,kvs,c.hd,c.n0⟩:=by
 have xS:∀y,y < c.H.n->¬c.X y->¬Mf c y/\¬c.X y:=λy zz hy=>⟨λq=>q.elim (λq=>q.elim (λq=>hy (q▸ok.gi.xp)) λq=>q.elim (λq=>hy (q▸ok.gi.xt)) λq=>hy (q▸ok.gi.xr)) λq=>hy (q▸ok.xk),hy⟩
 have jc:j*bT c.deep<=bT c.deep:=match j,hj with
  | 0,_=>by rw [Nat.zero_mul];exact abp _
  | 1,_=>by rw [Nat.one_mul];exact aaF _
  | i+2,hi=>absurd hi (aaP.mpr (abn 2 i))
 have jb:j*(100*bT c.deep+20)<=100*bT c.deep+20:=match j,hj with
  | 0,_=>by rw [Nat.zero_mul];exact abp _
  | 1,_=>by rw [Nat.one_mul];exact aaF _
  | i+2,hi=>absurd hi (aaP.mpr (abn 2 i))
 have kl:=I.rk.len
 rw [aaB,I.kl] at kl
 refine ⟨I.gi,I.cW,?_,RA.mono I.aD ok.ra,ok.rb.mono I.aD xS,ok.gb,ok.gl,λx hx=>I.aD.lt (ok.hX x hx),I.aD.lt ok.C9,ok.xk,ok.gk,I.ek,by show kvs.length < 10;exact Rf kl (aaA hj (by decide)),?_,?_⟩
 .show c.B+1+j*(100*bT c.deep+20)+100*bT c.deep+20 < 40000
  generalize j*(100*bT c.deep+20)=M at jb ⊢
  exact zF (aaQ ok.hB jb) (by simp+arith)
 .show (c.hs++g0).length+bT c.deep<=44
  rw [aaD];exact zF (aaQ jc (aaQ ok.h1 I.l2)) (by simp+arith)
 .show (c.rows++bV).length+bT c.deep<=44
  rw [aaD];exact zF (aaQ jc (aaQ ok.h2 I.r2)) (by simp+arith)
theorem LL.next {j:Nat} {ks:List Int} {kvs:List AV} {g0 b9:List (Nat × Di)} {bV aF:List (Int × Nat × Di)} {loc':Loc} {H':HP} {rr:Nat} (I:LL c j ks kvs g0 bV loc H) (l:Rp c loc') (r:Q4 ⟨c.X,c.g,H,c.hs++g0,c.rows++bV,c.B+1+j*(100*bT c.deep+20),c.bv,c.bd,c.kl,c.rf,c.fn,c.deep,kvs,c.hd,c.n0⟩ H' rr b9 aF):
  LL c (j+1) (ks++[5+((c.hs++g0).length:Int)]) (kvs++[.ref rr]) (g0++b9) (bV++aF) loc' H':=by
 have gw:=r.gw
 refine ⟨I.aD.tr r.aD,?_,by have:=r.gi;rwa [aaW,aaW] at this,r.e,?_,by rw [aaD,I.kl];rfl,?_,?_,?_,?_,l⟩
 .rw [Nat.succ_mul,<-aa9,<-aa9]
  exact r.cW
 .rw [aaL]
  exact (I.rk.imp λzz zz q=>RA.mono r.aD q).snoc r.ra
 .rw [aaD,Nat.succ_mul];exact aaQ I.l2 r.l2
 .rw [aaD];exact aaQ I.r1 r.r1
 .rw [aaD,Nat.succ_mul];exact aaQ I.r2 r.r2
 .rw [aaL,Cf,aaD,FU,<-aaW]
  rw [show (c.hs++g0).length=c.hs.length+g0.length from aaD] at gw ⊢
  exact GW.app gw (I.gw.up (more:=b9) aaD)
noncomputable def YU (c:Fk) (QS:KS):Prop:=∀H' loc' j ks kvs g0 bV,(1<=j/\j<=2)->LL c j ks kvs g0 bV loc' H'->QS .next loc' H'
theorem B3 (m:aQ G) (ok:HH c) (ih:∀d,c.deep=d+1->my G d) (l:Rp c loc) (h:YU c QS):S.bW (.nm "turn") .aE (XL.o (.bin .add (.int 1) (dQ 2))) ul (G (k+c.deep+5)) loc c.H QS:=by
 refine ak l.l0 (eZ m ok.cW (zF ok.hB (by simp+arith)) (M:=2) (by decide) (by decide) λH1 r f1 n1 gY hr=>?_)
 refine (?_:w4 (.nm "turn") .aE (ul (G (k+c.deep+5))) loc QS [.int ((1+r:Nat):Int)] H1)
 refine Dj (aaw (abj (Nat.le_of_lt_succ hr) 1) (by decide)) (λj loc' H'=>∃ks kvs g0 bV,LL c j ks kvs g0 bV loc' H') (λj hj loc' H' C J hC zz=>bF J λks kvs g0 bV I=>?_) (jW ([]) ([]) ([]) ([]) ⟨f1.weak λzz zz q=>Or.inl (.inl q),by rw [Nat.zero_mul];exact gY,?_,f1.ne ok.C9 ok.ek (aaN (aaA (aaA ok.gi.i5.pt ok.gi.i5.tr) ok.gk)),.nil,rfl,abp _,abp _,abp _,⟨rfl,rfl⟩,l⟩) λloc' H' J=>bF J λks kvs g0 bV I=>h H' loc' (1+r) ks kvs g0 bV ⟨aaM 1 r,abj (Nat.le_of_lt_succ hr) 1⟩ I
 .have ZC:j < 2:=zF (aaQ hr hj) (by simp+arith)
  exact Cg m (c:=⟨c.X,c.g,H',c.hs++g0,c.rows++bV,c.B+1+j*(100*bT c.deep+20),c.bv,c.bd,c.kl,c.rf,c.fn,c.deep,kvs,c.hd,c.n0⟩) (ok.turn ZC I) ih ⟨I.l.l0,I.l.l1,I.l.l2,I.l.l3,I.l.l4,I.l.l5,I.l.l6,I.l.l7,I.l.l8,I.l.l9⟩ λH2 rr b9 aF r=>hC _ H2 (jW _ _ _ _ (I.next ⟨I.l.l0,I.l.l1,I.l.l2,I.l.l3,I.l.l4,I.l.l5,I.l.l6,I.l.l7,I.l.l8,I.l.l9⟩ r))
 .rw [aaY,aaY]
  exact ok.gi.mono f1 (λy q=>.inl q) (λzz zz h=>h) ok.gi.xp ok.gi.xt ok.gi.xr
end
noncomputable def GZ:SL:= .cons (.b8 (.loc "head") (.str "Kids") (.loc "kids")) (.cons (.b8 (.loc "head") (.str "Count") (.bin .sub (.prim "len" (.o (.loc "rows"))) (.loc "count"))) (.o (.ret (.loc "reference"))))
section
variable {G:Nat->aj} {H:HP} {Q:KV} {k:Nat} {loc:Loc} {X:Nat->Prop} {g:mX} {hs g0:List (Nat × Di)} {rows:List (Int × Nat × Di)}
theorem Dl {hd kl rr:Nat} {n0:Int} {d:Di} {ks:List Int} {kvs:List AV} (a:GI X H g (hs++(hd,d)::g0) rows) (nh:j8 d) (lk:kl < H.n) (nx:¬X kl) (ek:H.g kl= .list kvs) (rk:L2 (RA H) kvs (ks.map At.ref)) (hd_:hd≠g.rw)
  (v1:loc "head"= .ref hd) (v2:loc "kids"= .ref kl) (v3:loc "rows"= .ref g.rw) (v4:loc "count"= .int n0) (v5:loc "reference"= .ref rr)
  (h:∀H' c,ai (atS hd) H H'->H'.n=H.n->GI X H' g (hs++(hd,gT ks c d)::g0) rows->Q (.ref rr) H'):GZ (G k) loc H (eH Q):=by
 refine ak v2 (ak v1 (a.setHead (va:= .arr (ks.map At.ref)) (bH kl kvs ⟨rfl,⟨lk,nx⟩,ek,rk⟩) (aaz nh.len (by decide)) λH1 f1 n1 a1=>?_))
 refine a1.rws.elim λvs e=>ak v3 (ad e.1 (ak v4 (ak v1 (a1.setHead (va:= .at (.int ((vs.length:Int) - n0))) rfl (aaz (aaw b3 (aa1 nh.len)) (by decide)) λH2 f2 n2 a2=>ak v5 (h H2 _ (f1.tr f2) (n2.trans n1) a2)))))
end
noncomputable def Aa:SL:= .cons (.set "reference" (.ay (.loc "shelf") "add" (.o (.loc "head")))) (.cons (.set "below" Ej) (.cons (.set "count" (.prim "len" (.o (.loc "rows")))) (.cons (.set "kids" (.list .nil)) (.cons (.bW (.nm "turn") .aE (XL.o (.bin .add (.int 1) (dQ 2))) ul) GZ))))
structure MP where
 X:Nat->Prop
 g:mX
 H:HP
 hs:List (Nat × Di)
 rows:List (Int × Nat × Di)
 B:Nat
 gv:Nat
 gd:Di
 hd:Nat
 d:Di
 deep:Nat
structure EI (c:MP):Prop where
 gi:GI c.X c.H c.g c.hs c.rows
 cW:aO c.H c.g.p c.B
 hB:c.B+200*bT c.deep+60 < 40000
 rg:RD (λy=>¬c.X y) c.H c.gv c.gd
 RF:lL c.gd
 gl:c.gd.length+4*c.deep<=20
 hX:∀x,c.X x->x < c.H.n
 h1:c.hs.length+uN c.deep<=44
 h2:c.rows.length+uN c.deep<=44
 rd:RD (λy=>¬c.X y) c.H c.hd c.d
 jR:c.g.rw < c.hd
 AM:c.hd ∉ c.hs.map (·.1)++c.rows.map (·.2.1)
 nh:j8 c.d
structure TQ (c:MP) (loc:Loc):Prop where
 l0:loc "pen"= .ref c.g.p
 l1:loc "shelf"= .ref c.g.s
 l2:loc "own"= .ref c.g.ow
 l3:loc "given"= .ref c.gv
 l4:loc "deep"= .int c.deep
 l5:loc "rows"= .ref c.g.rw
 l6:loc "head"= .ref c.hd
structure UZ (c:MP) (H':HP) (rr:Nat) (b9:List (Nat × Di)) (aF:List (Int × Nat × Di)):Prop where
 aD:ai (λx=>uM c.g x\/x=c.hd) c.H H'
 lt:rr < H'.n
 at_:H'.g rr=cH (5+(c.hs.length:Int))
 cW:aO H' c.g.p (c.B+200*bT c.deep+50)
 gi:GI c.X H' c.g (c.hs++b9) (c.rows++aF)
 l1:2<=b9.length
 l2:b9.length<=uN c.deep
 r1:1<=aF.length
 r2:aF.length<=uN c.deep
 gw:GW (kD (c.hs++b9)) (λzz=>False) (nums c.hs.length b9.length) [(5+(c.hs.length:Int),c.gd)] (db aF)
section
variable {G:Nat->aj} {H:HP} {Q:KV} {k:Nat} {loc:Loc} {c:MP}
theorem EI.loop (ok:EI c) {H5 H6 H7:HP} {rr bv:Nat} {n0:Int} (f5:ai (atS c.g.t) c.H H5) (q2:rr < H5.n) (q3:H5.g rr=cH (5+(c.hs.length:Int))) (tE:GI c.X H5 c.g (c.hs++[(c.hd,c.d)]) c.rows) (f6:ai aJ H5 H6) (rb:RD (bf (λy=>¬c.X y) H5.n) H6 bv (b0 c.gd c.d)) (f7:ai aJ H6 H7) (n7:H7.n=H6.n+1) (ek:H7.g H6.n= .list []):
  HH ⟨λx=>c.X x\/x=H6.n,c.g,H7,c.hs++[(c.hd,c.d)],c.rows,c.B,bv,b0 c.gd c.d,H6.n,rr,5+(c.hs.length:Int),c.deep,[],c.hd,n0⟩:=by
 have TY:=f6.tr f7
 have K4:=f5.le
 have hc:= @wd c.deep
 have gl:=ok.gl
 refine ⟨((tE.mono f6 (X':=c.X) (λy q=>q.elim) (λzz zz h=>h) tE.xp tE.xt tE.xr).mono f7 (X':=λx=>c.X x\/x=H6.n) (λy q=>q.elim) (λy hy hx q=>q.elim hx λq=>aaJ hy q) (.inl tE.xp) (.inl tE.xt) (.inl tE.xr)),(ok.cW.mono f5 (aaJ ok.gi.i5.pt)).mono TY id,ok.hB,⟨rr,rfl,TY.lt q2,TY.fix q2 q3 rfl⟩,rb.mono f7 λy hy hx=>⟨id,λq=>q.elim (λq=>hx.elim (λz=>z q) λz=>aaP.mpr z (f5.lt (ok.hX _ q))) λq=>aaJ hy q⟩,Dh ok.RF ok.nh.aR (aaw (aaw (aaM _ _) gl) (by decide)),?_,λx hx=>hx.elim (λq=>f7.lt ((λhx=>f6.lt (f5.lt (ok.hX _ hx))) q)) λq=>by show x < H7.n;rw [q,n7];exact aaC _,n7▸aaC _,.inr rfl,aax tE.qe f6.le,ek,?_,?_⟩
 .show (b0 c.gd c.d).length+4*c.deep<=24
  exact zF (aaQ gl qN) (by simp+arith)
 .show (c.hs++[(c.hd,c.d)]).length+2*bT c.deep<=44
  rw [aaD,abe];exact zF (aaQ (aaS hc.symm) ok.h1) (by simp+arith)
 .show c.rows.length+2*bT c.deep<=44
  exact zF (aaQ (aaS hc.symm) ok.h2) (by simp+arith)
end
section
variable {G:Nat->aj} {H H8:HP} {Q:KV} {k:Nat} {loc:Loc} {c:MP}
theorem AT {L m:Nat}:nums L (m+1)=(5+(L:Int))::nums (L+1) m:=by unfold nums;rw [abD];rfl
theorem GW.close {hs g0:List (Nat × Di)} {hd:Nat} {d gd:Di} {ks:List Int} {n:Int} {rows:List (Int × Di)} (nh:j8 d) (RF:lL gd) (hk:ks.length<=10) (w:GW (kD ((hs++[(hd,d)])++g0)) (λzz=>False) (nums (hs++[(hd,d)]).length g0.length) (ks.map λx=>(x,b0 gd d)) rows):
  GW (kD (hs++(hd,gT ks n d)::g0)) (λzz=>False) (nums hs.length ((hd,gT ks n d)::g0).length) [(5+(hs.length:Int),gd)] rows:=by
 rw [aa2,AT]
 refine (cZ gd (gT ks n d) ([]) ⟨rfl,⟨kO,RF⟩,.inr ⟨ks,C5 nh hk,?_⟩⟩)
 rw [aaY,vD (d:=gT ks n d) (d':=d) λkey uP=>uq (ol.mp uP)]
 rw [aaW,aaD] at w
 exact w.congr λx hx=>Ds (by have:=dS.mp hx;rw [abe] at this;exact Int.ne_of_gt (Int.lt_of_lt_of_le (Int.add_lt_add_left (MQ (aaC _)) 5) this.1))
theorem FY {pm:Int->Prop} {f:Int->Option Di} {L m:Nat} {st:List (Int × Di)} {rows:List (Int × Nat × Di)} (w:GW f pm (nums L m) st (db rows)) (h:1<=rows.length):1<=m:=by
 cases rows with
 | nil=>cases h
 | cons x r=>
  have:=dS.mp (w.rows (x.1,x.2.2) (.head _))
  exact QK this.1 this.2
theorem yP (ok:EI c) {H7 H8:HP} {rr bv j:Nat} {n0:Int} {ks:List Int} {kvs:List AV} {g0:List (Nat × Di)} {bV:List (Int × Nat × Di)} {kl:Nat} (Yc:ai (uM c.g) c.H H7) (Wj:c.H.n<=kl) (UB:rr < H7.n) (err:H7.g rr=cH (5+(c.hs.length:Int))) (Ux:kl≠c.g.p)
  (hj:1<=j/\j<=2) (I:LL ⟨λx=>c.X x\/x=kl,c.g,H7,c.hs++[(c.hd,c.d)],c.rows,c.B,bv,b0 c.gd c.d,kl,rr,5+(c.hs.length:Int),c.deep,[],c.hd,n0⟩ j ks kvs g0 bV loc H8) (lk:kl < H7.n)
  (h:∀H' rr b9 aF,UZ c H' rr b9 aF->Q (.ref rr) H'):GZ (G k) loc H8 (eH Q):=by
 have a8:GI c.X H8 c.g (c.hs++(c.hd,c.d)::g0) (c.rows++bV):=by
  have:=I.gi.mono (X':=c.X) (.refl:ai aJ H8 H8) (λy q=>q.elim) (λy zz hy q=>hy (.inl q)) ok.gi.xp ok.gi.xt ok.gi.xr
  rwa [aaW] at this
 have hc:= @wd c.deep
 have r1:1<=bV.length:=aaw hj.1 I.r1
 have T9:ks.length<=10:=by rw [I.kl];exact aaw hj.2 (by decide)
 have jb:j*(100*bT c.deep+20)<=2*(100*bT c.deep+20):=Nat.mul_le_mul_right _ hj.2
 refine Dl a8 ok.nh (I.aD.lt lk) (λq=>aaP.mpr Wj (ok.hX _ q)) I.ek I.rk (aaN ok.jR) I.l.l8 I.l.l7 I.l.l6 I.l.l9 I.l.l3 λH9 n f9 n9 a9=>h H9 rr ((c.hd,gT ks n c.d)::g0) bV ?_
 refine ⟨((Yc.weak λzz zz q=>Or.inl q).trans I.aD λa ha q=>q.imp id λq=>absurd ha (aaP.mpr ((show a=kl from q)▸Wj))).tr (f9.weak λzz zz q=>Or.inr q),f9.lt (I.aD.lt UB),f9.fix (I.aD.lt UB) (I.aD.fix UB err rfl) rfl,(I.cW.up ?_).mono f9 (aaJ (aaA (aaA ok.gi.i5.pt ok.gi.i5.tr) ok.jR)),a9,aa1 (FY I.gw r1),?_,r1,?_,GW.close ok.nh ok.RF T9 I.gw⟩
 .show c.B+1+j*(100*bT c.deep+20)<=c.B+200*bT c.deep+50
  generalize j*(100*bT c.deep+20)=M at jb ⊢
  exact zF jb (by simp+arith)
 .rw [aa2,hc];exact zF (aaw I.l2 (Nat.mul_le_mul_right _ hj.2)) (by simp+arith)
 .rw [hc];exact aaw (aaw I.r2 (Nat.mul_le_mul_right _ hj.2)) (abn _ 1)
end
noncomputable def OM:SL:= .cons (.bW (.nm "turn") .aE (XL.o (.bin .add (.int 1) (dQ 2))) ul) GZ
section
variable {G:Nat->aj} {H:HP} {Q:KV} {k:Nat} {loc:Loc} {c:MP}
theorem By (m:aQ G) (ok:EI c) (ih:∀d,c.deep=d+1->my G d) {H5 H6 H7:HP} {rr bv:Nat} {n0:Int} (f5:ai (atS c.g.t) c.H H5) (q2:rr < H5.n) (q3:H5.g rr=cH (5+(c.hs.length:Int))) (tE:GI c.X H5 c.g (c.hs++[(c.hd,c.d)]) c.rows) (f6:ai aJ H5 H6) (rb:RD (bf (λy=>¬c.X y) H5.n) H6 bv (b0 c.gd c.d)) (f7:ai aJ H6 H7) (n7:H7.n=H6.n+1) (ek:H7.g H6.n= .list [])
  (l:TQ c loc) (l3:loc "reference"= .ref rr) (l4:loc "below"= .ref bv) (l7:loc "kids"= .ref H6.n) (l9:loc "count"= .int n0) (h:∀H' rr b9 aF,UZ c H' rr b9 aF->Q (.ref rr) H'):OM (G (k+c.deep+5)) loc H7 (eH Q):=by
 have Ve:=f6.tr f7
 refine B3 m (c:=⟨λx=>c.X x\/x=H6.n,c.g,H7,c.hs++[(c.hd,c.d)],c.rows,c.B,bv,b0 c.gd c.d,H6.n,rr,5+(c.hs.length:Int),c.deep,[],c.hd,n0⟩) (ok.loop f5 q2 q3 tE f6 rb f7 n7 ek) ih ⟨l.l0,l.l1,l.l2,l3,l4,l.l4,l.l5,l7,l.l6,l9⟩ λH8 Yr j ks kvs g0 bV hj I=>?_
 exact yP ok ((f5.weak λzz zz q=>Or.inr (.inl q)).tn Ve) (aaw f5.le f6.le) (Ve.lt q2) (Ve.fix q2 q3 rfl) (aaN (aax (aaA ok.gi.i5.pt ok.gi.tl) (aaw f5.le f6.le))) hj I (n7▸aaC _) h
theorem BZ (m:aQ G) (ok:EI c) (ih:∀d,c.deep=d+1->my G d) (l:TQ c loc) (h:∀H' rr b9 aF,UZ c H' rr b9 aF->Q (.ref rr) H'):Aa (G (k+c.deep+5)) loc c.H (eH Q):=by
 have hc:= @wd c.deep
 have cp:= @uA c.deep
 refine ok.gi.sh.elim λtr es=>ak l.l1 (ad es (ak l.l6 (ok.gi.add m ok.rd ok.jR ok.AM (aaz (aaw (aaM _ _) ok.h1) (by decide)) λH5 rr f5 q1 q2 q3 tE=>?_)))
 have kp:cX (atS c.g.t) (λy=>¬c.X y) (λy=>¬c.X y) c.H:=λy zz hy=>⟨λq=>hy ((show y=c.g.t from q)▸ok.gi.xt),hy⟩
 refine Gc l.l3 l.l6 (ok.rg.mono f5 kp) (ok.rd.mono f5 kp) (aaz (aaw (aaM _ _) ok.gl) (by decide)) λH6 bv f6 hbv rb=>?_
 refine (tE.mono f6 (X':=c.X) (λy q=>q.elim) (λzz zz h=>h) tE.xp tE.xt tE.xr).rws.elim λrvs er=>ak l.l5 (ad er.1 (cN λH7 f7 n7 ek=>?_))
 exact By m ok ih f5 q2 q3 tE f6 rb f7 n7 ek ⟨l.l0,l.l1,l.l2,l.l3,l.l4,l.l5,l.l6⟩ rfl rfl rfl rfl h
end
section
variable {G:Nat->aj} {H H4:HP} {Q:KV} {k deep B gv hd:Nat} {loc:Loc} {X:Nat->Prop} {g:mX} {hs:List (Nat × Di)} {rows:List (Int × Nat × Di)} {gd d:Di}
theorem Ao (m:aQ G) (b:NT deep X H g hs rows B gv gd) (ih:∀d,deep=d+1->my G d) (fp:ai (atS g.p) H H4) (cW:aO H4 g.p (B+7)) (rd:RD (λy=>¬X y) H4 hd d) (wX:H.n<=hd) (nh:j8 d) (l:TQ ⟨X,g,H4,hs,rows,B+7,gv,gd,hd,d,deep⟩ loc)
  (h:TL X g H hs rows gd (B+100*uN deep) (uN deep) 2 Q):Aa (G (k+deep+5)) loc H4 (eH Q):=by
 have hc:= @wd deep
 refine BZ m (c:=⟨X,g,H4,hs,rows,B+7,gv,gd,hd,d,deep⟩) ⟨b.gi.mono fp (λy q=>.inl q) (λzz zz h=>h) b.gi.xp b.gi.xt b.gi.xr,cW,by show B+7+200*bT deep+60 < 40000;exact zF (aaQ (abt 100 (aaS hc.symm)) b.hB) (by simp+arith),b.rd.mono fp (λy zz hy=>⟨λq=>hy ((show y=g.p from q)▸b.gi.xp),hy⟩),b.Zg,b.gl,λx hx=>fp.lt (b.hX x hx),b.h1,b.h2,rd,aax b.gi.qe wX,b.gi.new wX,nh⟩ ih l λH' rr b9 aF r=>?_
 exact h H' rr b9 aF ⟨(fp.weak λzz zz q=>Or.inl q).trans r.aD λa ha q=>q.elim id λq=>absurd ha (aaP.mpr ((show a=hd from q)▸wX)),r.lt,r.at_,r.cW.up (by show B+7+200*bT deep+50<=_;exact zF (abt 100 (aaS hc.symm)) (by simp+arith)),r.gi,r.l1,r.l2,r.r1,r.r2,r.gw⟩
theorem oG (m:aQ G) (ih:∀d,deep=d+1->my G d):my G deep:=by
 intro k X H g hs rows B gv pv gd Q b Q2 h
 have ge:=b.gi.i5
 have fresh:∀{x},H.n<=x->¬X x:=λhx q=>absurd (b.hX _ q) (aaP.mpr hx)
 refine m.run 47 rfl rfl rfl (fX m λH1 f1 n1 e1=>gV (P:=λy=>¬X y) (P':=λy=>¬X y) (d:=pI) (.cons ⟨rfl,H.n,rfl,n1▸aaC _,e1⟩ .nil) (by decide:["Type"].Nodup) (fresh f1.le) (λzz zz h=>h) λH2 f2 n2 r2=>?_)
 have fL:=f1.tr f2
 have wX:H.n<=H1.n:=f1.le
 have O8:H1.n≠g.p:=aaN (aax (aaA ge.pt b.gi.tl) wX)
 refine CJ m (c:=⟨λy=>¬X y,g.p,H1.n,g.ow,H2,pI⟩) (B:=B) ⟨λx hx q=>hx (q▸b.gi.xp),λx hx=>fresh (aaw fL.le hx),O8,aaN (aax (aaA ge.G7 b.gi.qe) wX),aaN (aaA ge.pt ge.to),(by decide:1 < 50)⟩ ⟨.refl,b.cW.mono fL id,b.gi.own.mono fL id,r2,.refl⟩ (aaA (aaz (aaM _ _) b.hB) (by decide)) λH3 d1 s3=>?_
 have Kq:ai (atS g.p) H H3:=fL.no.trans s3.aD λa ha q=>q.elim id λq=>absurd ha (aaP.mpr ((show a=H1.n from q)▸wX))
 have nh:=Gf s3.fo s3.rd.nd
 refine Q2.elim (λe=>?_) λz=>aq z λpn a w=>?_
 .subst e
  show Aa (G (k+deep+5)) ((((((((Loc.new.upd "pen" (.ref g.p)).upd "shelf" (.ref g.s)).upd "own" (.ref g.ow)).upd "parent" .none).upd "given" (.ref gv)).upd "deep" (.int deep)).upd "rows" (.ref g.rw)).upd "head" (.ref H1.n)) H3 (eH Q)
  exact Ao m b ih Kq s3.cW s3.rd wX nh.1 ⟨rfl,rfl,rfl,rfl,rfl,rfl,rfl⟩ h
 .rw [w.1]
  refine s3.rd.set (va:= .at (.ref pn)) ⟨a,rfl,Kq.lt w.2.1,Kq.fix w.2.1 w.2.2 rfl⟩ (aaz nh.2 (by decide)) λH4 f4 n4 r4=>?_
  show Aa (G (k+deep+5)) ((((((((Loc.new.upd "pen" (.ref g.p)).upd "shelf" (.ref g.s)).upd "own" (.ref g.ow)).upd "parent" (.ref a)).upd "given" (.ref gv)).upd "deep" (.int deep)).upd "rows" (.ref g.rw)).upd "head" (.ref H1.n)) H4 (eH Q)
  exact Ao m b ih (Kq.Jg f4 wX) (s3.cW.mono f4 (abm O8)) r4 wX (nh.1.par nh.2) ⟨rfl,rfl,rfl,rfl,rfl,rfl,rfl⟩ h
theorem HQ (m:aQ G) (deep:Nat):my G deep:=by
 induction deep with
 | zero=>exact oG m λd e=>absurd e (abC d).symm
 | succ d ih=>exact oG m λd' e=>Nat.succ.inj e▸ih
end
section
variable {f f':Int->Option Di} {pm Rl:Int->Prop} {ns:List Int} {gd d fd:Di} {pn q n:Int}
theorem cM.more (p:cM pn pm d) (h:∀n,pm n->Rl n):cM pn Rl d:=⟨p.nd,p.par,p.typ,p.cont,p.kids,λva hv=>(p.mT va hv).imp λn z=>⟨z.1,h n z.2⟩,p.vals,p.aR,p.ln⟩
theorem GW.more (h:∀n,pm n->Rl n):∀{st rows:List (Int × Di)},GW f pm ns st rows->GW f Rl ns st rows:=by
 induction ns with
 | nil=>exact id
 | cons n ns ih=>exact λ{st rows} w=>w.imp λgd w=>w.imp λd w=>w.imp λi7 w=>⟨w.1,w.2.1,w.2.2.imp (λw=>w.imp λfd w=>w.imp λr0 w=>⟨w.1,⟨w.2.1.pg.imp λzz p=>p.more h,w.2.1.look,w.2.1.len⟩,ih w.2.2⟩) λw=>w.imp λks w=>⟨w.1,ih w.2⟩⟩
noncomputable def dj (q:Int) (d:Di):Di:=cJ "Peer" (.at (.ref q)) d
theorem cM.xl (p:cM pn pm d) (hq:pm q):cM pn pm (dj q d):=by
 have lk:∀{key},key≠"Peer"->look key (dj q d)=look key d:=λh=>az.trans (if_neg (abm h))
 refine ⟨c5 p.nd,(lk (by decide)).trans p.par,?_,?_,(lk (by decide)).trans p.kids,λva h=>?_,λkey va h h1 h2 h3 h4=>p.vals key va ((lk h3).symm.trans h) h1 h2 h3 h4,λkey va h hk=>p.aR key va ((lk (ip key hk).2.2).symm.trans h) hk,z0 p.ln⟩
 .rw [lk (by decide)];exact p.typ
 .rw [lk (by decide)];exact p.cont
 .have e:look "Peer" (dj q d)=some (.at (.ref q)):=az.trans (if_pos rfl)
  exact ⟨q,aay (h.symm.trans e),hq⟩
theorem Ry.xl (p:Ry pm gd d fd) (hq:pm q):Ry pm gd (dj q d) (dj q fd):=by
 refine ⟨p.pg.imp λzz p=>p.xl hq,λkey=>?_,z0 p.len⟩
 unfold dj
 rw [az,fh,az,p.look,fh]
 by_cases e:"Peer"=key
 .rw [if_pos e,if_pos e];rfl
 .rw [if_neg e,if_neg e]
theorem GW.mT (hq:pm q) (hd:f n=some d) (Gi:f' n=some (dj q d)) (ho:∀m,m≠n->f' m=f m):ns.Nodup->∀{st ra rb:List (Int × Di)},GW f pm ns st (ra++(n,fd)::rb)->GW f' pm ns st (ra++(n,dj q fd)::rb):=by
 induction ns with
 | nil=>exact λzz {st ra rb} w=>by cases ra<;>cases w.2
 | cons m ns ih=>
  intro nd st ra rb w
  have nd:=aa8.mp nd
  refine w.imp λgd w=>aq w λd1 i7 w=>?_
  refine w.2.2.elim (λz=>aq z λYf r0 z=>?_) λz=>z.elim λks z=>?_
  .cases ra with
   | nil=>
    cases z.1
    obtain rfl:=aay (hd.symm.trans w.2.1.1)
    exact (bH (dj q d) i7 ⟨w.1,⟨Gi,w.2.1.2⟩,.inl (bH (dj q fd) rb ⟨rfl,z.2.1.xl hq,z.2.2.congr λx hx=>ho x λe=>nd.1 (e▸hx)⟩)⟩)
   | cons x ra=>
    cases z.1
    have ne:m≠n:=λe=>nd.1 (e▸z.2.2.rows (n,fd) (aaT _ (.head _)))
    exact (bH d1 i7 ⟨w.1,⟨(ho m ne).trans w.2.1.1,w.2.1.2⟩,.inl (bH Yf (ra++(n,dj q fd)::rb) ⟨rfl,z.2.1,ih nd.2 z.2.2⟩)⟩)
  .have ne:m≠n:=λe=>nd.1 (e▸z.2.rows (n,fd) (aaT _ (.head _)))
   exact (bH d1 i7 ⟨w.1,⟨(ho m ne).trans w.2.1.1,w.2.1.2⟩,.inr ⟨ks,z.1,ih nd.2 z.2⟩⟩)
theorem GW.all:∀{st rows:List (Int × Di)},GW f pm ns st rows->∀n∈ns,∃d,f n=some d/\((∃pn,cM pn pm d)\/∃ks,rZ ks d):=by
 induction ns with
 | nil=>exact λzz n h=>(aaU h).elim
 | cons m ns ih=>
  exact λ{st rows} w n h=>bj w λgd d i7 w=>w.2.2.elim (λz=>aq z λfd r0 z=>(aaH.mp h).elim (λe=>e▸⟨d,w.2.1.1,.inl z.2.1.pg⟩) (ih z.2.2 n)) λz=>z.elim λks z=>(aaH.mp h).elim (λe=>e▸⟨d,w.2.1.1,.inr ⟨ks,z.1⟩⟩) (ih z.2 n)
end
noncomputable def qb (va:Va):Prop:=va≠ .at .none/\yI va
theorem jI {i:Int}:qb (.at (.int i)):=⟨nofun,trivial⟩
theorem o9 {s:String}:qb (.at (.name s)):=⟨nofun,trivial⟩
theorem fy {n:Int}:qb (.at (.ref n)):=⟨nofun,trivial⟩
theorem yv {va:Va} (h:d7 va):qb va:=h.elim (λz=>z.elim λi e=>e▸jI) λh=>h.elim (λz=>z.elim λn e=>e.1▸fy) λz=>z.elim λw e=>e▸⟨nofun,(by decide:4 < 1000)⟩
section
variable {gd d aR:Di} {pn:Int} {pm:Int->Prop} {ks:List Int} {key:String} {va:Va}
theorem uD (p:cM pn pm d) (h:look key d=some va):qb va:=by
 refine (Classical.em (key∈ax)).elim (λhi=>?_) λhi=>?_
 .exact yv (p.aR key va h hi)
 by_cases h1:key="Parent"
 .exact aay (p.par.symm.trans (h1▸h))▸fy
 by_cases h2:key="Peer"
 .exact (p.mT va (h2▸h)).elim λn z=>z.1▸fy
 by_cases h3:key="Contents"
 .exact p.cont.elim (λe=>aay (e.symm.trans (h3▸h))▸fy) λe=>aay (e.symm.trans (h3▸h))▸fy
 exact (p.vals key va h hi h1 h2 h3).elim (λz=>z.elim λi e=>e▸jI) λz=>z.elim λs e=>e▸o9
theorem GU (p:cM pn pm d):de (.dict d):=⟨aaz p.len (by decide),λx hx=>uD p (ch p.nd hx)⟩
theorem IR (p:rZ ks d):de (.dict d):=by
 refine ⟨aaz p.len (by decide),λx hx=>?_⟩
 have h:=ch p.nd hx
 refine (Classical.em (x.1∈ax)).elim (λhi=>?_) λhi=>?_
 .exact yv (p.aR _ _ h hi)
 refine (Classical.em (x.1="Kids")).elim (λh1=>?_) λh1=>?_
 .rw [h1,p.kids] at h
  exact aay h▸⟨nofun,aaz (aaw (aaS (aaB _)) p.kl) (by decide)⟩
 exact (p.vals _ _ h hi h1).elim (λz=>z.elim λi e=>e.symm▸jI) λz=>z.elim (λz=>z.elim λs e=>e.symm▸o9) λz=>z.elim λn e=>e.symm▸fy
structure Dx (gd aR:Di):Prop where
 eq:∀key,look key aR=look key gd
 nd:(aR.map (·.1)).Nodup
theorem zO (h:lL gd) (i:Dx gd aR):aR.length < 90:=by
 have:(aR.map (·.1)).length<=ax.length:=i.nd.length_le_of_subset λkey hk=>by
  refine (Classical.em (key∈ax)).elim (λq=>?_) λq=>?_
  .exact q
  .refine (aaG.mp hk).elim λx z=>(ku (key:=x.1) (v:=x.2) z.1).elim λw hw=>?_
   rw [show x.1=key from z.2,i.eq,h.out _ q] at hw;exact nomatch hw
 rw [aaB] at this
 exact aaz this (by decide)
theorem DX {l:List String}:∀{aR:Di},(aR.map (·.1)).Nodup->((l.foldl (eY d) aR).map (·.1)).Nodup:=by
 induction l with
 | nil=>exact id
 | cons x l ih=>
  refine λ{aR} h=>ih ?_
  unfold eY
  cases look x d with
  | none=>exact h
  | some v=>exact c5 h
end
section
variable {gd d aR:Di} {key:String}
theorem xI {x:String}:look key (eY d aR x)=if x=key then (look key d).or (look key aR) else look key aR:=by
 by_cases e:x=key
 .rw [if_pos e,<-e]
  unfold eY
  cases look x d with
  | none=>rfl
  | some v=>exact az.trans (if_pos rfl)
 .rw [if_neg e];exact q9 e
theorem mI {l:List String}:∀{aR:Di},look key (l.foldl (eY d) aR)=if key∈l then (look key d).or (look key aR) else look key aR:=by
 induction l with
 | nil=>exact (if_neg aaU).symm
 | cons x l ih=>
  intro aR
  refine ih.trans ?_
  rw [xI]
  by_cases e:x=key
  .rw [if_pos e,if_pos (e▸List.mem_cons_self:key∈x::l)]
   cases look key d with
   | none=>exact ite_self _
   | some v=>exact ite_self _
  .rw [if_neg e]
   by_cases h:key∈l
   .rw [if_pos h,if_pos (.tail _ h)]
   .rw [if_neg h,if_neg λz=>(aaH.mp z).elim (λz=>e z.symm) h]
theorem yo {f:Di} {x:String} (h:look key d= .none):look key (dP d aR f x)=if x=key then (look key aR).or (look key f) else look key f:=by
 unfold dP
 by_cases e:x=key
 .rw [if_pos e,e,h]
  show look key (((look key aR).map λva=>cJ key va f).getD f)=_
  cases look key aR with
  | none=>rfl
  | some v=>exact az.trans (if_pos rfl)
 .rw [if_neg e]
  cases look x d with
  | some _=>rfl
  | none=>
   show look key (((look x aR).map λva=>cJ x va f).getD f)=_
   cases look x aR with
   | none=>rfl
   | some v=>exact az.trans (if_neg e)
end
section
variable {gd d aR:Di} {key:String}
theorem yw {f:Di} {x:String} {v:Va} (h:look key d=some v):look key (dP d aR f x)=look key f:=by
 unfold dP
 cases e:look x d with
 | some _=>rfl
 | none=>
  have ne:x≠key:=λq=>by rw [q,h] at e;exact nomatch e
  show look key (((look x aR).map λva=>cJ x va f).getD f)=_
  cases look x aR with
  | none=>rfl
  | some v=>exact az.trans (if_neg ne)
theorem yx {v:Va} (h:look key d=some v) {l:List String}:∀{f:Di},look key (l.foldl (dP d aR) f)=look key f:=by
 induction l with
 | nil=>exact rfl
 | cons x l ih=>exact ih.trans (yw h)
theorem ut (h:look key d= .none) {l:List String}:∀{f:Di},look key (l.foldl (dP d aR) f)=if key∈l then (look key aR).or (look key f) else look key f:=by
 induction l with
 | nil=>exact (if_neg aaU).symm
 | cons x l ih=>
  intro f
  refine ih.trans ?_
  rw [yo h]
  by_cases e:x=key
  .rw [if_pos e,if_pos (e▸List.mem_cons_self:key∈x::l)]
   cases look key aR with
   | none=>exact ite_self _
   | some v=>exact ite_self _
  .rw [if_neg e]
   by_cases h:key∈l
   .rw [if_pos h,if_pos (.tail _ h)]
   .rw [if_neg h,if_neg λz=>(aaH.mp z).elim (λz=>e z.symm) h]
theorem lW (h:lL gd) (i:Dx gd aR):look key (iN d (cI d aR))=look key (d5 gd d):=by
 rw [fh]
 cases hd:look key d with
 | some v=>exact (yx hd).trans hd
 | none=>
  refine (ut hd).trans ?_
  show (if key∈ax then (look key (ax.foldl (eY d) aR)).or (look key d) else look key d)=look key gd
  rw [mI,hd,i.eq,Option.or_none]
  by_cases hk:key∈ax
  .rw [if_pos hk,if_pos hk];rfl
  .rw [if_neg hk,h.out key hk]
end
section
variable {gd d aR:Di} {key:String} {f:Int->Option Di} {pm:Int->Prop} {tab:List (Int × Ob)} {ns:List Int}
theorem IC {l:List String}:∀{f:Di},(f.map (·.1)).Nodup->((l.foldl (dP d aR) f).map (·.1)).Nodup:=by
 induction l with
 | nil=>exact id
 | cons x l ih=>
  refine λ{f} h=>ih ?_
  unfold dP
  cases look x d with
  | some _=>exact h
  | none=>cases look x aR with
   | none=>exact h
   | some v=>exact c5 h
theorem BR {l:List String}:∀{f:Di},(l.foldl (dP d aR) f).length<=f.length+l.length:=by
 induction l with
 | nil=>exact λ{f}=>aaF _
 | cons x l ih=>exact λ{f}=>aaw ih (by rw [aa2,<-aa9,Nat.add_right_comm];exact abb (vh f x) _)
structure Told (pm:Int->Prop) (gd d p:Di):Prop where
 eq:∀key,look key p=look key (d5 gd d)
 nd:(p.map (·.1)).Nodup
 len:p.length < 60
 g:lL gd
 d:∃pn,cM pn pm d
theorem GA {pn:Int} (p:cM pn pm d) (g:lL gd) (i:Dx gd aR):Told pm gd d (iN d (cI d aR)):=
 ⟨λkey=>lW g i,IC p.nd,aaz (aaw BR (abb p.len _)) (by decide:10+4 < 60),g,pn,p⟩
theorem uE (h1:∃o,ah 1 tab=some o/\o≠ .null) (h2:∃o,ah 2 tab=some o/\o≠ .null) (hi:∀key va,look key d=some va->key∈ax->d7 va):qR tab d:=λkey hk va hv=>(hi key va hv hk).elim (λz=>z.elim λi e=>e▸trivial) λz=>z.elim (λz=>z.elim λn e=>e.1▸e.2.elim (λq=>q▸h1) λq=>q▸h2) λz=>z.elim λw e=>e▸trivial
end
noncomputable def Oz (pm:Int->Prop) (r p:Int × Di):Prop:=r.1=p.1/\(∀key,look key r.2=look key p.2)/\r.2.length<=60/\∃gd d,Told pm gd d p.2
noncomputable def Nj (a b:Int × Di):Prop:=a.1=b.1/\Dx a.2 b.2
section
variable {f:Int->Option Di} {pm:Int->Prop} {tab:List (Int × Ob)} {ns:List Int}
theorem GW.wk (hf:∀n d,f n=some d->ah n tab=some (.dict d)) (h1:∃o,ah 1 tab=some o/\o≠ .null) (h2:∃o,ah 2 tab=some o/\o≠ .null):∀{st rows ye:List (Int × Di)},GW f pm ns st rows->L2 Nj st ye->
  ∃sp,Wk tab ye sp/\sp.map (·.n)=ns/\L2 (Oz pm) rows (ar sp)/\∀x DU,sp=x::DU->∀ks d,f x.n=some d->rZ ks d->x.pg=false:=by
 induction ns with
 | nil=>exact λ{st rows ye} w hs=>by rw [w.1] at hs;exact (w.2)▸⟨[],hs.flip.df,rfl,.nil,λx DU e=>nomatch e⟩
 | cons n ns ih=>
  intro st rows ye w hs
  refine bj w λgd d i7 w=>?_
  rw [w.1] at hs
  refine aq hs.flip.aX λb Q1 z=>?_
  obtain ⟨n',aR⟩:=b
  rw [z.1]
  rw [<-(show n=n' from z.2.1.1)]
  have hi:Dx gd aR:=z.2.1.2
  refine w.2.2.elim (λy=>aq y λfd r0 y=>y.2.1.pg.elim λpn p=>(ih y.2.2 z.2.2.flip).elim λsp q=>?_) λy=>y.elim λks y=>?_
  .refine ⟨⟨n,d,cI d aR,true⟩::sp,(cZ aR Q1 ([]) ⟨rfl,⟨hf n d w.2.1.1,?_,uE h1 h2 p.aR,zO w.2.1.2 hi,rfl,.inl ⟨rfl,rfl⟩⟩,q.1⟩),by rw [aa4,q.2.1],?_,λx DU e ks d' e2 nd=>?_⟩
   .exact p.typ.elim (λt=>.inr (.inr ⟨t,p.kids,rfl⟩)) λt=>.inr (.inl ⟨t,rfl⟩)
   .rw [y.1]
    exact .cons ⟨rfl,λkey=>(y.2.1.look key).trans (lW w.2.1.2 hi).symm,aaw y.2.1.len (by cases (look "Peer" fd).isSome<;>decide),gd,d,GA p w.2.1.2 hi⟩ q.2.2.1
   .cases (abf e).1
    obtain rfl:=aay (w.2.1.1.symm.trans e2)
    have t:=nd.typ
    exact p.typ.elim (λq=>by replace t:=(q)▸t;cases t) λq=>by
     replace t:=(q)▸t
     have t2:"Page"="Pages":=congrArg (λ(o:Option Va)=>match o with | some (.at (.name s))=>s | _=>"") t
     exact absurd t2 (by decide)
  .have ND:L2 Nj (ks.map (λx=>(x,b0 gd d))++i7) (ks.map (λx=>(x,cI d aR))++Q1):=L2.append (L2.mJ (L2.xq (L2.diag λx zz=>⟨rfl,λkey=>by show look key (cI d aR)=look key (b0 gd d);unfold cI;rw [mI,jj w.2.1.2.nd,hi.eq],DX hi.nd⟩))) z.2.2.flip
   refine (ih y.2 ND).elim λsp q=>⟨⟨n,d,cI d aR,false⟩::sp,(cZ aR Q1 ks ⟨rfl,⟨hf n d w.2.1.1,.inl ⟨y.1.typ,rfl⟩,uE h1 h2 y.1.aR,zO w.2.1.2 hi,rfl,.inr ⟨rfl,y.1.kids⟩⟩,q.1⟩),by rw [aa4,q.2.1],q.2.2.1,λx DU e zz zz zz zz=>(abf e).1▸rfl⟩
end
noncomputable def mj (L:Nat):List (Nat × Di)->List (Int × Ob)
 | []=>[]
 | x::r=>((L:Int)+1,.dict x.2)::mj (L+1) r
theorem BE {l:List (Nat × Di)}:∀{L:Nat},(mj L l).length=l.length:=by
 induction l with
 | nil=>exact rfl
 | cons x r ih=>exact congrArg (· +1) ih
theorem o5 {l:List (Nat × Di)}:∀{L:Nat},(mj L l).map (·.1)=(List.range' L l.length).map λ(i:Nat)=>(i:Int)+1:=by
 induction l with
 | nil=>exact rfl
 | cons x r ih=>exact λ{L}=>by rw [aa2,abD,aa4,<-ih];rfl
theorem DC {l:List (Nat × Di)}:∀{L i:Nat},ah ((L:Int)+1+i) (mj L l)=(l[i]?).map λx=>Ob.dict x.2:=by
 induction l with
 | nil=>exact rfl
 | cons x r ih=>
  intro L i
  cases i with
  | zero=>rw [Int.natCast_zero,Int.add_zero];exact eW
  | succ i=>
   show ah _ (((L:Int)+1,_)::_)=(r[i]?).map _
   rw [dW (Int.ne_of_lt (Int.lt_add_of_pos_right _ (Int.natCast_pos.mpr (Nat.succ_pos _)))),<-ih (L:=L+1)]
   exact congrArg (λn=>ah n (mj (L+1) r)) zs
noncomputable def cR (hs:List (Nat × Di)):List (Int × Ob):=oJ++mj 4 hs
noncomputable def fN:Di:=[("Type",.at (.name "Catalog")),("Pages",.at (.ref 5))]
noncomputable def Py (c:Int):Di:=[("Root",.at (.ref c)),("Size",.at (.int 40))]
noncomputable def LU (hs:List (Nat × Di)) (c:Int) (sp:List aW):Doc:=⟨cR hs,Py c,c,sp⟩
section
variable {hs:List (Nat × Di)} {n:Int} {ob:Ob}
theorem jh:(cR hs).length=4+hs.length:=(aaD).trans (congrArg (4+·) BE)
theorem jw:(cR hs).map (·.1)=(List.range (cR hs).length).map λ(i:Nat)=>(i:Int)+1:=by
 rw [jh,List.range_eq_range',List.range'_append_1.symm,aaL]
 unfold cR
 rw [aaL,o5]
 rfl
theorem Bq:((cR hs).map (·.1)).Nodup:=by
 rw [jw]
 exact List.Pairwise.map _ (λa b (h:a < b)=>(λe=>aaJ h (qD ((Int.add_left_inj 1).mp e)))) List.pairwise_lt_range
theorem qK (h:5<=n):ah n (cR hs)=(kD hs n).map Ob.dict:=by
 obtain ⟨i,e⟩:∃i:Nat,n=4+1+i:=⟨(n - 5).toNat,(zu h).symm⟩
 have hn:n ∉ oJ.map (·.1):=λq=>by have:=((bD (tab:=oJ) rfl).mp q).2;have e4:oJ.length=4:=rfl;exact NI e this e4
 unfold cR
 rw [kK,oj hn]
 show ah n (mj 4 hs)=_
 rw [e]
 refine DC.trans ?_
 rw [show (4:Int)+1+i=5+i from rfl,zW,Option.map_map]
 rfl
theorem oi (h:ah n (cR hs)=some ob):n<=4+hs.length:=by
 have:=(bD jw).mp (abi (f:=(·.1)) (bo h))
 rw [jh] at this
 exact this.2
structure vO (w:Int × Ob):Prop where
 n:w.1∈([1,2,3,4]:List Int)
 refs:mi w.2=[]
 nn:w.2≠ .null
 ok:de w.2
theorem oZ {i:Int} {s:String}:eI [(s,.at (.int i))]:=⟨(by decide:1 < 64),λx hx=>aaK.mp hx▸jI⟩
theorem CO:∀w∈oJ,vO w:=by
 have h:vO (1,.dict [("Font",.at (.int 1))])/\vO (2,.dict [("Font",.at (.int 2))])/\vO (3,KE)/\vO (4,L6)/\∀w∈([]:List (Int × Ob)),vO w:=
  ⟨⟨.head _,rfl,Ob.noConfusion,oZ⟩,⟨.tail _ (.head _),rfl,Ob.noConfusion,oZ⟩,⟨.tail _ (.tail _ (.head _)),rfl,Ob.noConfusion,(by decide:0 < 64),fm⟩,⟨.tail _ (.tail _ (.tail _ (.head _))),rfl,Ob.noConfusion,oZ⟩,fm⟩
 unfold oJ
 rw [List.forall_mem_cons,List.forall_mem_cons,List.forall_mem_cons,List.forall_mem_cons]
 exact h
theorem rq (h:ah n (cR hs)=some ob) (h5:¬5<=n):vO (n,ob):=by
 refine CO _ (bo ((qX λw hw e=>?_).symm.trans h))
 have:=abi (f:=(·.1)) hw
 rw [o5] at this
 refine (aaG.mp this).elim λi z=>?_
 have:=(List.mem_range'_1.mp z.1).1
 exact Nf h5 e z.2 this
end
structure d9 (D:Doc) (rows:List (Int × Di)):Prop where
 ok:DocOk D
 rows:L2 (λ(r p:Int × Di)=>r.1=p.1/\(∀key,look key r.2=look key p.2)/\r.2.length<=60) rows (ar D.sp)
 Rt:∀p∈ar D.sp,wL D p.2/\D.bs p.1=true
 neg:D.bs (-1)=false
 XO:D.bs 3=false/\D.bs 4=false
structure oq (hk:List (Nat × Di)) (ca:Nat) (pm:Int->Prop) (rows:List (Int × Di)):Prop where
 w:GW (kD (hk++[(ca,fN)])) pm (nums 0 hk.length) [(5,[])] rows
 h2:2<=hk.length
 hl:hk.length<=40
 QJ:∀n,pm n->n∈nums 0 hk.length
structure jA (hk:List (Nat × Di)) (ca:Nat) (pm:Int->Prop) (rows:List (Int × Di)) (sp:List aW):Prop where
 wk:Wk (cR (hk++[(ca,fN)])) [(5,[])] sp
 ns:sp.map (·.n)=nums 0 hk.length
 rows:L2 (Oz pm) rows (ar sp)
 hd:∀x DU,sp=x::DU->x.pg=false
section
variable {hk:List (Nat × Di)} {ca:Nat} {pm:Int->Prop} {rows:List (Int × Di)} {sp:List aW} {n:Int} {ob:Ob} {d:Di}
noncomputable abbrev mZ (hk:List (Nat × Di)) (ca:Nat) (sp:List aW):Doc:=LU (hk++[(ca,fN)]) (5+(hk.length:Int)) sp
theorem oq.nm (g:oq hk ca pm rows):n∈nums 0 hk.length ↔ 5<=n/\n < 5+(hk.length:Int):=dS
theorem Aw {hs:List (Nat × Di)} (h:kD hs n=some d):ah n (cR hs)=some (.dict d):=by
 have h5:5<=n:=by
  unfold kD at h
  by_cases q:5<=n
  .exact q
  .rw [if_neg q] at h;exact nomatch h
 rw [qK h5,h];rfl
theorem Eg:kD (hk++[(ca,fN)]) (5+(hk.length:Int))=some fN:=kO (b:=[]) (x:=(ca,fN))
theorem oq.root (g:oq hk ca pm rows):∃ks d,kD (hk++[(ca,fN)]) 5=some d/\rZ ks d:=by
 obtain ⟨m,e⟩:∃m,hk.length=m+2:=⟨hk.length - 2,by have:=g.h2;exact (Nat.sub_add_cancel this).symm⟩
 have w:=g.w
 rw [e] at w
 refine bj w λgd d i7 w=>w.2.2.elim (λz=>aq z λfd r0 z=>?_) λz=>z.elim λks z=>(bH ks d ⟨w.2.1.1,z.1⟩)
 refine bj z.2.2 λgd d Q1 w2=>?_
 have:=((abf w.1).2.symm).symm.trans w2.1
 cases this
theorem oq.walk (g:oq hk ca pm rows):∃sp,jA hk ca pm rows sp:=
 (g.w.wk (λn d h=>Aw h) ⟨_,rfl,Ob.noConfusion⟩ ⟨_,rfl,Ob.noConfusion⟩ (.cons ⟨rfl,λzz=>rfl,.nil⟩ .nil)).imp λsp z=>⟨z.1,z.2.1,z.2.2.1,λx DU e=>by
  refine aq g.root λks d r=>z.2.2.2 x DU e ks d ?_ r.2
  obtain ⟨m,em⟩:∃m,hk.length=m+1:=⟨hk.length - 1,by have:=g.h2;exact (Nat.sub_add_cancel (Nat.le_of_succ_le this)).symm⟩
  have ns:=z.2.1
  rw [e,em] at ns
  have:x.n=5:=(abf ns).1
  rw [this];exact r.1⟩
theorem jA.bs (w:jA hk ca pm rows sp):(mZ hk ca sp).bs n=decide (n∈nums 0 hk.length\/n=5+(hk.length:Int)):=by
 refine decide_eq_decide.mpr ?_
 show n∈sp.map (·.n)\/n=5+(hk.length:Int) ↔ _
 rw [w.ns]
theorem jA.Ui (w:jA hk ca pm rows sp) (h1:5<=n) (h2:n<=5+(hk.length:Int)):(mZ hk ca sp).bs n=true:=by
 rw [w.bs,decide_eq_true_iff,dS];exact (Int.lt_or_eq_of_le h2).imp_left λx=>⟨h1,x⟩
theorem jA.RW (w:jA hk ca pm rows sp) (h:n < 5):(mZ hk ca sp).bs n=false:=by
 rw [w.bs,decide_eq_false_iff_not,dS];exact λx=>x.elim (λy=>Int.not_le.mpr h y.1) λe=>Int.not_le.mpr h (e▸Int.le_add_of_nonneg_right (aa0 _))
theorem jA.own (w:jA hk ca pm rows sp) (h:ah n (cR (hk++[(ca,fN)]))=some ob) (hb:(mZ hk ca sp).bs n=false):vO (n,ob):=rq h λh5=>by
 have:=oi h
 rw [aaD,abe] at this
 rw [w.Ui h5 (abd this (Int.le_of_eq zs))] at hb;exact Bool.noConfusion hb
theorem oq.obs (g:oq hk ca pm rows) (h:ah n (cR (hk++[(ca,fN)]))=some ob):de ob:=by
 by_cases h5:5<=n
 .have hi:=oi h
  rw [aaD,abe] at hi
  rw [qK h5] at h
  by_cases hc:n=5+(hk.length:Int)
  .rw [hc,Eg] at h
   exact aay h▸⟨(by decide:2 < 64),(List.forall_mem_cons.mpr ⟨o9,List.forall_mem_cons.mpr ⟨fy,fm⟩⟩:∀x∈fN,qb x.2)⟩
  .refine (g.w.all n (g.nm.mpr ⟨h5,MZ (abd hi (Int.le_of_eq zs)) hc⟩)).elim λd q=>?_
   rw [q.1] at h
   exact aay h▸q.2.elim (λz=>z.elim λzz z=>GU z) λz=>z.elim λzz z=>IR z
 .exact (rq h h5).ok
theorem LF (g:oq hk ca pm rows) (w:jA hk ca pm rows sp):DocOk (mZ hk ca sp):=by
 refine ⟨⟨(cZ (5+(hk.length:Int)) fN 5 ⟨⟨rfl,Aw Eg⟩,rfl,w.wk⟩),?_,?_,w.hd⟩,rfl,λx hx=>g.obs (lR Bq hx),⟨(by decide:2 < 64),(List.forall_mem_cons.mpr ⟨fy,List.forall_mem_cons.mpr ⟨jI,fm⟩⟩:∀x∈Py _,qb x.2)⟩,λn o h hb=>(w.own h hb).refs,λfr nd h=>?_⟩
 .show (sp.map (·.n)).Nodup;rw [w.ns];exact Ab
 .have:=congrArg List.length w.ns
  rw [aaB,show (nums 0 hk.length).length=hk.length from (aaB _).trans List.length_range'] at this
  show sp.length < 1000
  rw [this];exact aaz g.hl (by decide)
 .exact nd.length_le_of_subset (l₂:=[1,2,3,4]) λn hn=>(aa7.mp (h n hn).1).elim λo e=>(w.own e (h n hn).2).n
end
section
variable {hk:List (Nat × Di)} {ca:Nat} {pm:Int->Prop} {rows:List (Int × Di)} {sp:List aW} {n:Int} {key:String} {gd d p:Di} {va:Va}
theorem Told.val (t:Told pm gd d p) (h:look key p=some va):look key d=some va\/look key gd=some va:=by
 rw [t.eq,fh] at h
 cases e:look key d with
 | some v=>rw [e] at h;exact .inl h
 | none=>rw [e] at h;exact .inr h
theorem Told.out (t:Told pm gd d p) (h:key ∉ ax):look key p=look key d:=by
 rw [t.eq,fh,t.g.out key h,Option.or_none]
theorem Told.aR (t:Told pm gd d p) (hi:key∈ax) (h:look key p=some va):d7 va:=
 (t.val h).elim (λq=>t.d.elim λpn pd=>pd.aR key va q hi) (t.g.Il key va)
theorem Told.ok (t:Told pm gd d p):eI p:=⟨aaA t.len (by decide),λx hx=>(t.val (ch t.nd hx)).elim (λq=>t.d.elim λpn pd=>uD pd q) λq=>yv (t.g.Il _ _ q)⟩
theorem jA.low (w:jA hk ca pm rows sp) {o:Ob} (h:ah n oJ=some o):ah n (mZ hk ca sp).tab=some o/\(mZ hk ca sp).bs n=false/\o≠ .null:=by
 refine ⟨((kK.trans (h.symm▸rfl):ah n (oJ++_)=_)),w.RW ?_,(CO _ (bo h)).nn⟩
 have:=(bD (tab:=oJ) rfl).mp (abi (f:=(·.1)) (bo h))
 exact Int.lt_add_one_of_le (abd this.2 (wZ (aaS rfl)))
theorem jA.aR (w:jA hk ca pm rows sp) (h:d7 va):gS va=[]\/∃m o,va= .at (.ref m)/\ah m (mZ hk ca sp).tab=some o/\(mZ hk ca sp).bs m=false/\o≠ .null:=
 h.elim (λz=>z.elim λi e=>e▸ .inl rfl) λh=>h.elim (λz=>z.elim λm e=>e.2.elim (λq=>.inr ⟨m,_,e.1,q▸w.low (n:=1) rfl⟩) λq=>.inr ⟨m,_,e.1,q▸w.low (n:=2) rfl⟩) λz=>z.elim λi e=>e▸ .inl rfl
theorem Ld (g:oq hk ca pm rows) (w:jA hk ca pm rows sp) (t:Told pm gd d p):wL (mZ hk ca sp) p:=by
 refine t.d.elim λpn pd=>⟨t.nd,t.ok,t.len,λkey va h k1 k2=>?_,λva h=>?_,?_⟩
 .by_cases hi:key∈ax
  .exact w.aR (t.aR hi h)
  .replace h:=(t.out hi)▸h
   by_cases hc:key="Contents"
   .rw [hc] at h
    exact pd.cont.elim (λq=>.inr (bH 3 _ ⟨aay (h.symm.trans q),w.low (n:=3) rfl⟩)) λq=>.inr (bH 4 _ ⟨aay (h.symm.trans q),w.low (n:=4) rfl⟩)
   .exact (pd.vals key va h hi k2 k1 hc).elim (λz=>z.elim λi e=>e▸ .inl rfl) λz=>z.elim λi e=>e▸ .inl rfl
 .rw [t.out (by decide)] at h
  exact (pd.mT va h).imp λn z=>⟨z.1,w.Ui (g.nm.mp (g.QJ n z.2)).1 (Int.le_of_lt (g.nm.mp (g.QJ n z.2)).2)⟩
 .rw [t.out (by decide)]
  exact pd.cont.imp (λq=>⟨q,(w.low (n:=3) rfl).1⟩) λq=>⟨q,(w.low (n:=4) rfl).1⟩
theorem GC (g:oq hk ca pm rows):∃sp,d9 (mZ hk ca sp) rows:=g.walk.imp λsp w=>
 ⟨LF g w,w.rows.imp λr p z=>⟨z.1,z.2.1,z.2.2.1⟩,λp hp=>(w.rows.wm.flip.imp λzz zz z=>z).flip.HF hp |>.elim λr z=>aq z.2.1.2.2.2 λgd d t=>⟨Ld g w t,by
  have:=g.nm.mp (g.w.rows r z.1)
  rw [<-z.2.1.1];exact w.Ui this.1 (Int.le_of_lt this.2)⟩,w.RW (by decide),w.RW (by decide),w.RW (by decide)⟩
end
noncomputable def J6:SL:= .o (.bA (.cmp .eq (dQ 2) (.int 0)) (.cons (.set "peer" (.idx (.idx (.loc "rows") (.call "_law_draw" (.cons (.loc "pen") (.o (.prim "len" (.o (.loc "rows"))))))) (.int 0))) (.cons (.b8 (.loc "fields") (.str "Peer") (.loc "peer")) (.o (.b8 (.idx (.idx (.fld (.loc "shelf") "table") (.fld (.loc "reference") "number")) (.int 1)) (.str "Peer") (.loc "peer"))))) .nil)
noncomputable def Qo:SL:= .cons (.bW (.tup ["reference","fields"]) .plain (.o (.loc "rows")) J6) (.o (.ret (.tup (.cons (.loc "shelf") (.o (.loc "rows"))))))
noncomputable def OR:SL:= .cons (.set "root" (.call "_law_node" (.cons (.loc "pen") (.cons (.loc "shelf") (.cons (.loc "own") (.cons .none (.cons (.dict [] .nil) (.cons (.int 1) (.o (.loc "rows")))))))))) (.cons (.dI (.loc "shelf") "trailer" (.dict ["Root","Size"] (.cons (.ay (.loc "shelf") "add" (.o (.dict ["Type","Pages"] (.cons (.new "Name" (.o (.str "Catalog"))) (.o (.loc "root")))))) (.o (.int 40))))) Qo)
structure Gz (n0 s t:Nat) (tab:List (Int × Ob)) (vs:List AV) (xs:List At) (H0 H:HP):Prop where
 aD:ai (atS t) H0 H
 ms:MS (bw n0) H s t tab
 vs:L2 (RA H) vs xs
structure Xn (H0:HP) (g:mX) (H:HP):Prop where
 aD:ai aJ H0 H
 new:H0.n<=g.s
 gi:GI (λx=>x=g.p\/x=g.s\/x=g.t\/x=g.rw) H g [] []
section
variable {G:Nat->aj} {H H0 H':HP} {Q:KV} {k n0 s t p:Nat} {tab:List (Int × Ob)} {vs:List AV} {xs:List At} {v:AV} {ob:Ob}
theorem Gz.mn (I:Gz n0 s t tab vs xs H0 H) (f:ai aJ H H'):Gz n0 s t tab vs xs H0 H':=⟨I.aD.tn f,I.ms.mono f aV id id,I.vs.imp λzz zz r=>r.mono f⟩
theorem Gz.add (m:aQ G) (I:Gz n0 s t tab vs xs H0 H) (hn:t < n0) (hs:s≠t) (hl:tab.length+1 < 64) (rv:RO (bw n0) H v ob)
  (h:∀H' rr,Gz n0 s t (tab++[((tab.length:Int)+1,ob)]) (vs++[.ref rr]) (xs++[.ref ((tab.length:Int)+1)]) H0 H'->Q (.ref rr) H'):G (k+2) "Shelf.add" [.ref s,v] H Q:=by
 have hZ:∀x,bw n0 x->x≠t:=λx hx=>aaN (aax hn hx)
 refine I.ms.ins.elim λq e=>I.ms.tb.elim λes e2=>CR m rv.noRef.set e e2.1 (zT e2.2 I.ms.num) (e2.2.len▸I.ms.len) (λH' f n et er=>?_) I.ms.lX
 rw [e2.2.len] at et er
 refine h H' _ ⟨I.aD.tr f,⟨f.lt I.ms.lt,f.lt I.ms.lX,⟨q,f.ne I.ms.lt e hs⟩,⟨_,et,(e2.2.imp λzz zz r=>RT.mono f (rC hZ) r).snoc ⟨rfl,v,rfl,rv.mono f (rC hZ)⟩⟩,?_,by rwa [aaD]⟩,(I.vs.imp λzz zz r=>r.mono f).snoc ⟨_,rfl,n▸aaC _,er⟩⟩
 rw [aaL,I.ms.num,aaD,abe,List.range_succ,aaL];rfl
theorem Gz.ge (I:Gz n0 s t tab vs xs H0 H) (h:n0<=H0.n):n0<=H.n:=aaw h I.aD.le
theorem Bw (m:aQ G) (hp:p < H.n) (h:∀H' g,g.p=p->Xn H g H'->OR (G (k+2)) ((((Loc.new.upd "pen" (.ref p)).upd "shelf" (.ref g.s)).upd "own" (.ref g.ow)).upd "rows" (.ref g.rw)) H' (eH Q)):G (k+3) "_law_document" [.ref p] H Q:=by
 refine m.run 48 rfl rfl rfl (rF m λH1 t r f1 lt e1 e2 e3=>ad e1 ?_)
 have lX:t < H1.n:=aaA lt.2.1 lt.2.2
 have ne:H.n≠t:=aaJ lt.1
 refine gV (P:=bw H1.n) (P':=bw H1.n) (d:=[("Font",.at (.int 1))]) (.cons ⟨rfl,rfl⟩ .nil) (by decide:["Font"].Nodup) (aaF _) (λzz zz q=>q) λH2 f2 n2 r2=>((show Gz H1.n H.n t [] [] [] H1 H1 from ⟨.refl,⟨(aaA (aaA lt.1 lt.2.1) lt.2.2),lX,⟨.ref r,e1⟩,⟨[],e2,.nil⟩,rfl,by decide⟩,.nil⟩).mn f2).add m lX ne (by decide) (ob:= .dict _) ⟨_,rfl,r2⟩ λH3 a1 I1=>I1.ms.ins.elim λq1 U9=>ad U9 ?_
 refine gV (P:=bw H1.n) (P':=bw H1.n) (d:=[("Font",.at (.int 2))]) (.cons ⟨rfl,rfl⟩ .nil) (by decide:["Font"].Nodup) (I1.ge (aaF _)) (λzz zz q=>q) λH4 f4 n4 r4=>(I1.mn f4).add m lX ne (by decide) (ob:= .dict _) ⟨_,rfl,r4⟩ λH5 a2 I2=>I2.ms.ins.elim λq2 NH=>ad NH ?_
 refine gV (P:=bw H1.n) (P':=bw H1.n) (d:=[]) .nil .nil (I2.ge (aaF _)) (λzz zz q=>q) λH6 f6 n6 r6=>ji m λH7 f7 n7 e7=>((I2.mn f6).mn f7).add m lX ne (by decide) (ob:=KE) (bH H6.n _ ⟨rfl,⟨n7▸aaC _,e7⟩,r6.mn f7⟩) λH8 a3 I3=>I3.ms.ins.elim λq3 RN=>ad RN ?_
 refine gV (P:=bw H1.n) (P':=bw H1.n) (d:=[("A",.at (.int 1))]) (.cons ⟨rfl,rfl⟩ .nil) (by decide:["A"].Nodup) (I3.ge (aaF _)) (λzz zz q=>q) λH9 f9 n9 r9=>ji m λXo R0 YE Ud=>((I3.mn f9).mn R0).add m lX ne (by decide) (ob:=L6) (bH H9.n _ ⟨rfl,⟨YE▸aaC _,Ud⟩,r9.mn R0⟩) λSB a4 I4=>?_
 refine cN λVE oW qP U8=>cN λYb mK Sa T6=>?_
 have Dc:=oW.tr mK
 have Nw:SB.n < VE.n:=qP▸aaC _
 refine h Yb ⟨p,H.n,t,SB.n,VE.n,H1.n,SB.n⟩ rfl ⟨(f1.up I4.aD (aaI lt.1)).tr Dc,aaF _,⟨hp,lt.1,lX,I4.aD.le,aaF _,Nw⟩,Sa▸aaC _,I4.ms.ins.imp λzz e=>Dc.keep I4.ms.lt e,I4.ms.tb.imp λes e=>⟨(Dc.keep I4.ms.lX e.1).trans (congrArg AO.dict (aaY es).symm),e.2.imp λzz zz r=>r.mono Dc λa la ha=>⟨id,ha,la⟩⟩,
  ⟨aax Nw mK.le,_,mK.keep Nw U8,I4.vs.imp λzz zz r=>r.mono Dc⟩,⟨[],T6,.nil⟩,fm,fm,.nil,fm,fm,.inl rfl,.inr (.inr (.inl rfl)),.inr (.inr (.inr rfl)),by decide,by decide⟩
end
theorem vT {α:Type} {l:List α}:∀{i:Nat} {x:α},l[i]? =some x->∃a b,l=a++x::b/\a.length=i:=by
 induction l with
 | nil=>exact nofun
 | cons y l ih=>exact λ{i x} e=>match i,e with
  | 0,e=>(bH ([]) l ⟨aay e▸rfl,rfl⟩)
  | i+1,e=>(ih e).elim λa z=>z.imp' (λzz=>y::a) λb z=>⟨b,congrArg (y::·) z.1,congrArg (· +1) z.2⟩
theorem BL {x:Nat × Di} {l:List (Nat × Di)}:∀{q:Int} {i:Nat},l[i]? =some x->getD (.int (q+i)) (ents q l)=some (.tup [.int 0,.ref x.1]):=by
 induction l with
 | nil=>exact nofun
 | cons y l ih=>exact λ{q i} e=>match i,e with
  | 0,e=>by
   obtain rfl:=aay e
   exact (show q+((0:Nat):Int)=q from Int.add_zero q).symm▸qW
  | i+1,e=>by
   refine (kY λh=>?_).trans ((congrArg (λz=>getD (.int z) (ents (q+1) l)) zs).trans (ih (q:=q+1) e))
   have:=AV.int.inj h
   exact Int.ne_of_lt (Int.lt_add_of_pos_right _ (Int.natCast_pos.mpr (Nat.succ_pos _))) this
structure Gp where
 X:Nat->Prop
 H0:HP
 g:mX
 ca:Nat
 LD:Nat
 L:Nat
 c:Int
 num:List Int
 adr:List Nat
 rv:List AV
structure K9 (c:Gp):Prop where
 gn:c.H0.n<=c.g.s
 xs:c.X c.g.s
 Yz:c.LD ∉ c.adr
structure Cq (c:Gp) (hk:List (Nat × Di)) (rows:List (Int × Nat × Di)) (H:HP):Prop where
 aD:ai (atS c.g.p) c.H0 H
 gi:GI c.X H c.g (hk++[(c.ca,fN)]) rows
 gw:GW (kD (hk++[(c.ca,fN)])) (λn=>n∈c.num) (nums 0 c.L) [(5,[])] (db rows)
 len:hk.length=c.L
 num:rows.map (·.1)=c.num
 adr:(hk++[(c.ca,fN)]).map (·.1)++rows.map (·.2.1)=c.adr
 sh:H.g c.g.s=iy c.g.t (.ref c.LD)
 tr:RD (λy=>¬c.X y) H c.LD (Py c.c)
 rv:H.g c.g.rw= .list c.rv
structure OT (c:Gp) (hk:List (Nat × Di)) (rows:List (Int × Nat × Di)) (H:HP) (rf ff:Nat) (ra rb:List (Int × Nat × Di)) (fd:Di) (ha hb:List (Nat × Di)) (hd:Nat) (d:Di):Prop where
 rows:rows=ra++(5+(ha.length:Int),ff,fd)::rb
 heads:hk=ha++(hd,d)::hb
 lt:rf < H.n
 at_:H.g rf=cH (5+(ha.length:Int))
 mem:5+(ha.length:Int)∈c.num
 fl:fd.length < lim
 dl:d.length < lim
section
variable {H H':HP} {c:Gp} {hk:List (Nat × Di)} {rows:List (Int × Nat × Di)} {X:Nat->Prop} {g:mX}
theorem GW.Vj {f:Int->Option Di} {pm:Int->Prop} {ns:List Int}:∀{st rows:List (Int × Di)},GW f pm ns st rows->∀x∈rows,x.2.length < 60:=by
 induction ns with
 | nil=>exact λ{st rows} w x h=>by replace h:=(w.2)▸h;exact (aaU h).elim
 | cons n ns ih=>exact λ{st rows} w x h=>bj w λgd d i7 w=>w.2.2.elim (λz=>aq z λfd r0 z=>(aaH.mp (show x∈(n,fd)::r0 from z.1▸h)).elim (λe=>e▸aaz z.2.1.len (by cases (look "Peer" fd).isSome<;>decide)) (ih z.2.2 x)) λz=>z.elim λks z=>ih z.2 x h
theorem Cq.draw (a:Cq c hk rows H) (f:ai (atS c.g.p) H H'):Cq c hk rows H':=
 have ge:=a.gi.i5
 ⟨a.aD.tr f,a.gi.mono f (λy q=>.inl q) (λzz zz h=>h) a.gi.xp a.gi.xt a.gi.xr,a.gw,a.len,a.num,a.adr,f.ne a.gi.sl a.sh (aaN ge.ps),a.tr.mono f λy zz hy=>⟨λq=>hy ((show y=c.g.p from q)▸a.gi.xp),hy⟩,f.ne a.gi.qe a.rv (aaN (aaA ge.pt ge.tr))⟩
theorem Cq.at (a:Cq c hk rows H) {j:Nat} {v:AV} (hj:c.rv[j]? =some v):∃rf ff ra rb fd ha hb hd d,v= .tup [.ref rf,.ref ff]/\OT c hk rows H rf ff ra rb fd ha hb hd d:=by
 refine a.gi.rws.elim λvs e=>?_
 cases a.rv.symm.trans e.1
 refine (e.2.Oq hj).elim λx z=>z.2.elim λrf r=>aq (vT z.1) λra rb s=>?_
 obtain ⟨n,ff,fd⟩:=x
 have hn:(n,fd)∈db rows:=aaG.mpr ⟨(n,ff,fd),s.1▸aaT _ (.head _),rfl⟩
 have hm:=dS.mp (a.gw.rows _ hn)
 have tx:(n - 5).toNat < hk.length:=by have:=a.len;exact tS (zt (k:=5) hm.1 hm.2) this.symm
 refine aq (vT (aaR tx)) λha hb t=>?_
 have en:n=5+(ha.length:Int):=by have:=t.2;exact this▸(zu (k:=5) hm.1).symm
 have eh:=t.1
 cases hx:hk[(n - 5).toNat] with
 | mk hd d=>
 rw [hx] at eh
 have Mb:kD (hk++[(c.ca,fN)]) n=some d:=by rw [en,eh,aaW];exact kO
 refine (vL rf ff ra rb fd ha hb ⟨hd,d,r.1,⟨en▸s.1,eh,r.2.1,en▸r.2.2,en▸a.num▸aaG.mpr ⟨(n,ff,fd),s.1▸aaT _ (.head _),rfl⟩,aaA (a.gw.Vj _ hn) (by decide),?_⟩⟩)
 refine (a.gw.all n (a.gw.rows _ hn)).elim λd' q=>?_
 obtain rfl:=aay (Mb.symm.trans q.1)
 exact q.2.elim (λz=>z.elim λzz p=>aaz p.len (by decide)) λz=>z.elim λzz p=>aaz p.len (by decide)
theorem GI.entry {ha hb:List (Nat × Di)} {hd:Nat} {d:Di} (a:GI X H g (ha++(hd,d)::hb) rows) {F:AV->Prop} (h:F (.tup [.int 0,.ref hd])):ob (H.g g.t) (GN (.int (5+(ha.length:Int))) F):=a.tab.elim λwY e=>by
 have k4:wY.map (·.1)=dY 4:=L2.map_eq (f:=(·.1)) (g:=λx:Int × Ob=>AV.int x.1) (λzz zz r=>r.1) e.2
 refine ad e.1 ⟨iw (JS (hs:=ha++(hd,d)::hb) e.2).1 _,dF ((D1 λq=>?_).trans (BL (x:=(hd,d)) ?_)) h⟩
 .have:=(om.mp (k4▸q)).2
  exact M9 this
 .rw [List.getElem?_append_right (aaF _),Nat.sub_self];rfl
end
section
variable {G:Nat->aj} {H H':HP} {C:KS} {k:Nat} {c:Gp} {hk:List (Nat × Di)} {rows:List (Int × Nat × Di)} {loc:Loc}
structure Zd (c:Gp) (rf ff:Nat) (loc:Loc):Prop where
 l0:loc "pen"= .ref c.g.p
 l1:loc "rows"= .ref c.g.rw
 l2:loc "shelf"= .ref c.g.s
 l3:loc "reference"= .ref rf
 l4:loc "fields"= .ref ff
noncomputable def ZM (c:Gp) (B:Nat) (loc:Loc) (C:KS):Prop:=∀H' loc' y7 aF,Cq c y7 aF H'->aO H' c.g.p (B+2)->qw "peer" loc loc'->C .next loc' H'
theorem FR {ra rb:List (Int × Nat × Di)} {fd d:Di} {ha hb:List (Nat × Di)} {hd ff:Nat} {n q:Int} {H3:HP} (ok:K9 c) (a:Cq c (ha++(hd,d)::hb) (ra++(n,ff,fd)::rb) H) (en:n=5+(ha.length:Int)) (hq:q∈c.num)
  (f1:ai (atS ff) H H3) (f2:ai (atS hd) H3 H') (gi:GI c.X H' c.g (ha++(hd,dj q d)::(hb++[(c.ca,fN)])) (ra++(n,ff,dj q fd)::rb)):Cq c (ha++(hd,dj q d)::hb) (ra++(n,ff,dj q fd)::rb) H':=by
 have mh:(hd,d)∈(ha++(hd,d)::hb)++[(c.ca,fN)]:=aa3 _ (aaT _ (.head _))
 have mr:(n,ff,fd)∈ra++(n,ff,fd)::rb:=aaT _ (.head _)
 have g1:=a.gi.jR _ mh
 have g2:=a.gi.Jo _ mr
 have le:c.H0.n<=c.g.rw:=aaw ok.gn (aaI (aaA a.gi.i5.st a.gi.i5.tr))
 have ins:∀{y},y∈c.adr->c.LD≠y:=λhy q=>ok.Yz (q▸hy)
 have n1:c.LD≠ff:=ins (a.adr▸aaT _ (aaG.mpr ⟨_,mr,rfl⟩))
 have WX:∀{y o},y<=c.g.rw->y < H.n->H.g y=o->H'.g y=o:=λh l e=>f2.ne (f1.lt l) (f1.ne l e (aaJ (aaz h g2))) (aaJ (aaz h g1))
 have Mb:kD ((ha++(hd,d)::hb)++[(c.ca,fN)]) n=some d:=by rw [en,aaW];exact kO
 have w:=a.gw
 rw [show db (ra++(n,ff,fd)::rb)=db ra++(n,fd)::db rb from aaL] at w
 refine ⟨(a.aD.Jg f1 (aaw le (aaI g2))).Jg f2 (aaw le (aaI g1)),?_,?_,a.len▸(by rw [aaD,aaD];rfl),a.num▸(by rw [aaL,aaL];rfl),a.adr▸(by rw [aaL,aaL,aaL,aaL,aaL,aaL];rfl),WX (aaI (aaA a.gi.i5.st a.gi.i5.tr)) a.gi.sl a.sh,?_,WX (aaF _) a.gi.qe a.rv⟩
 .rw [aaW];exact gi
 .rw [show db (ra++(n,ff,dj q fd)::rb)=db ra++(n,dj q fd)::db rb from aaL]
  refine GW.mT (q:=q) hq Mb (by rw [en,aaW];exact kO) (λm hm=>?_) Ab w
  rw [aaW,aaW]
  exact Ds (en▸hm)
 .refine (a.gi.heads _ mh).ex.elim λes e=>(a.gi.gg _ mr).ex.elim λNH e2=>?_
  refine (a.tr.other f1 e2.1 n1).ex.elim λRN e3=>?_
  have zQ:hd≠ff:=λz=>?_
  .exact (a.tr.other f1 e2.1 n1).other f2 (f1.ne (a.gi.heads _ mh).lt e.1 zQ) (ins (a.adr▸aa3 _ (aaG.mpr ⟨_,mh,rfl⟩)))
  .have nd:=a.gi.nd
   rw [abw] at nd
   exact nd.2.2 hd (aaG.mpr ⟨_,mh,rfl⟩) ff (aaG.mpr ⟨_,mr,rfl⟩) z
theorem AW (m:aQ G) (ok:K9 c) {B j rf ff:Nat} (a:Cq c hk rows H) (cW:aO H c.g.p B) (hB:B < 50000) (hj:c.rv[j]? =some (.tup [.ref rf,.ref ff])) (l:Zd c rf ff loc) (h:ZM c B loc C):J6 (G (k+1)) loc H C:=by
 have xk:∀{y},c.g.rw < y->c.g.p≠y:=λh=>aaJ (aaA (aaA a.gi.i5.pt a.gi.i5.tr) h)
 refine ak l.l0 (eZ m cW (aaA hB (by decide)) (M:=2) (by decide) (by decide) λH1 r f1 n1 gY hr=>yO (λzz=>?_) λzz=>h H1 loc hk rows (a.draw f1) (gY.up (aba _)) λzz zz=>rfl)
 have a1:=a.draw f1
 have hl:c.rv.length<=50:=a1.gi.rws.elim λvs e=>by
  cases a1.rv.symm.trans e.1
  exact e.2.len▸a1.gi.rl
 refine ak l.l1 (ak l.l0 (ak l.l1 (ad a1.rv (eZ m gY (aaA (abv hB) (by decide)) (M:=c.rv.length) (aaz (abp _) (aaZ.mp hj).1) (aaz hl (by decide)) λH2 i f2 n2 mQ hi=>?_))))
 have a2:=a1.draw f2
 have hw:c.rv[i]? =some c.rv[i]:=aaR hi
 refine hY (a2.at hw) λqr qf zz zz zz qa z=>bj z λzz zz zz q=>?_
 refine hY (a2.at hj) λrf' ff' ra rb fd ha z=>bj z λhb hd d w=>?_
 clear z a1;cases w.1
 have w:=w.2
 clear z;obtain rfl:=w.rows
 obtain rfl:=w.heads
 refine ad a2.rv (dF hw ?_)
 rw [q.1]
 refine ak l.l4 ?_
 refine a2.gi.KM (va:= .at (.ref (5+(qa.length:Int)))) ⟨qr,rfl,q.2.lt,q.2.at_⟩ w.fl λH3 f3 n3 Yq=>?_
 have N8:GI c.X H3 c.g (ha++(hd,d)::(hb++[(c.ca,fN)])) (ra++(5+(ha.length:Int),ff,dj (5+(qa.length:Int)) fd)::rb):=by
  have:=Yq
  rw [aaW] at this
  exact this
 have g2:=a2.gi.Jo _ (aaT _ (.head _))
 refine ak l.l2 (ad (f3.ne a2.gi.sl a2.sh (aaJ (aaA (aaA a.gi.i5.st a.gi.i5.tr) g2))) (ak l.l3 (ad (f3.fix w.lt w.at_ rfl) (N8.entry ?_))))
 refine N8.setHead (va:= .at (.ref (5+(qa.length:Int)))) ⟨qr,rfl,f3.lt q.2.lt,f3.fix q.2.lt q.2.at_ rfl⟩ w.dl λH4 f4 n4 XZ=>?_
 exact h H4 _ _ _ (FR ok a2 rfl q.2.mem f3 f4 XZ) ((mQ.mono f3 (xk g2)).mono f4 (xk (a2.gi.jR _ (aa3 _ (aaT _ (.head _)))))) (qw.upd (loc':=loc) λzz zz=>rfl)
end
structure Wc (c:Gp) (g:mX) (H0:HP):Prop where
 eg:c.g=g
 h0:c.H0=H0
 ec:c.c=5+(c.L:Int)
 num:∀n∈c.num,n∈nums 0 c.L
 l2:2<=c.L
 l7:c.L<=7
 n1:1<=c.num.length
 n7:c.num.length<=7
noncomputable def On (g:mX):Loc:=(((Loc.new.upd "pen" (.ref g.p)).upd "shelf" (.ref g.s)).upd "own" (.ref g.ow)).upd "rows" (.ref g.rw)
section
variable {G:Nat->aj} {H H0 H':HP} {Q:KV} {k B:Nat} {g:mX} {X:Nat->Prop} {hs:List (Nat × Di)} {rows:List (Int × Nat × Di)}
theorem GI.trail (a:GI X H g hs rows) (f:ai (atS g.s) H H') {v:AV} (e:H'.g g.s=iy g.t v) (xs:X g.s):GI X H' g hs rows:=
 have ge:=a.i5
 have xS:cX (atS g.s) (λy=>¬X y) (λy=>¬X y) H:=λy zz hx=>⟨λq=>hx ((show y=g.s from q)▸xs),hx⟩
 ⟨ge,f.lt a.qe,⟨v,e⟩,a.tab.imp λwY e=>⟨f.ne a.tl e.1 (aaN ge.st),e.2.imp λzz zz r=>r.mono f λy zz hy=>⟨aaN (aax (aaA ge.st ge.tl) hy.1),hy⟩⟩,a.own.mono f (aaN (aaA ge.st ge.to)),a.rws.imp λzz e=>⟨f.ne a.qe e.1 (aaN (aaA ge.st ge.tr)),e.2.imp λzz zz r=>r.mono f⟩,
  λx hx=>(a.heads x hx).mono f xS,λx hx=>(a.gg x hx).mono f xS,a.nd,a.jR,a.Jo,a.xp,a.xt,a.xr,a.hl,a.rl⟩
theorem Md:lL []:=⟨.nil,λzz zz=>rfl,λzz zz h=>(nn h).elim,by decide⟩
theorem EC (m:aQ G) (D:Xn H0 g H) (cW:aO H g.p B) (hB:B < 30000) (h:∀H' c hk rows v,K9 c->Wc c g H0->Cq c hk rows H'->aO H' g.p (B+700)->Qo (G (k+7)) ((On g).upd "root" v) H' (eH Q)):OR (G (k+7)) (On g) H (eH Q):=by
 have ge:=D.gi.i5
 have VK:∀x,(x=g.p\/x=g.s\/x=g.t\/x=g.rw)->x < H.n:=λx hx=>hx.elim (λq=>q▸aaA ge.pt D.gi.tl) λhx=>hx.elim (λq=>q▸D.gi.sl) λhx=>hx.elim (λq=>q▸D.gi.tl) λq=>q▸D.gi.qe
 have fresh:∀{x},H.n<=x->¬(x=g.p\/x=g.s\/x=g.t\/x=g.rw):=λh q=>aaP.mpr h (VK _ q)
 have gm:∀{H1 H2:HP} {hs rows},GI (λx=>x=g.p\/x=g.s\/x=g.t\/x=g.rw) H1 g hs rows->ai aJ H1 H2->GI (λx=>x=g.p\/x=g.s\/x=g.t\/x=g.rw) H2 g hs rows:=λa f=>a.mono f (λy q=>q.elim) (λzz zz h=>h) a.xp a.xt a.xr
 refine gV (P:=λy=>¬(y=g.p\/y=g.s\/y=g.t\/y=g.rw)) (P':=λy=>¬(y=g.p\/y=g.s\/y=g.t\/y=g.rw)) (d:=[]) .nil .nil (fresh (aaF _)) (λzz zz h=>h) λH1 f1 n1 r1=>?_
 refine HQ m 1 k _ H1 g [] [] B H.n .none [] _ ⟨gm D.gi f1,cW.mono f1 id,by show B+100*7 < 40000;exact aax (Nat.add_lt_add_right hB (100*7)) (by decide),r1,Md,by decide,λx hx=>f1.lt (VK x hx),by decide,by decide⟩ (.inl rfl) λH2 rr hs rows r=>?_
 refine r.gi.sh.elim λtr2 NH=>ad NH (fX m λH3 f3 n3 e3=>?_)
 have l2:H.n<=H2.n:=aaw f1.le r.aD.le
 refine gV (P:=λy=>¬(y=g.p\/y=g.s\/y=g.t\/y=g.rw)) (P':=λy=>¬(y=g.p\/y=g.s\/y=g.t\/y=g.rw)) (d:=fN) (.cons ⟨rfl,H2.n,rfl,n3▸aaC _,e3⟩ (.cons ⟨rfl,rr,rfl,f3.lt r.lt,f3.fix r.lt r.at_ rfl⟩ .nil)) (by decide:["Type","Pages"].Nodup) (fresh (aaw l2 f3.le)) (λzz zz h=>h) λH4 f4 n4 r4=>?_
 have Co:=f3.tr f4
 have c7:uN 1=7:=rfl
 refine (gm r.gi Co).add m r4 (aax r.gi.qe f3.le) (λq=>(gm r.gi f3).new (aaF _) q) (aaz r.l2 (by decide)) λH5 r6 f5 q1 q2 q3 tE=>?_
 refine gV (P:=λy=>¬(y=g.p\/y=g.s\/y=g.t\/y=g.rw)) (P':=λy=>¬(y=g.p\/y=g.s\/y=g.t\/y=g.rw)) (d:=Py (5+(hs.length:Int))) (.cons ⟨rfl,r6,rfl,q2,q3⟩ (.cons ⟨rfl,rfl⟩ .nil)) (by decide:["Root","Size"].Nodup) (fresh (aaw l2 (aaw Co.le f5.le))) (λzz zz h=>h) λH6 f6 n6 Ya=>?_
 have WA:=gm tE f6
 refine WA.sh.elim λXv WC=>ad WC (ng WC λH7 f7 n7 e7=>?_)
 have Gm:=WA.trail f7 e7 (.inr (.inl rfl))
 have ot:H0.n<=g.t:=aaw D.new (aaI ge.st)
 have w:GW (kD hs) (λzz=>False) (nums 0 hs.length) [(5,[])] (db rows):=r.gw
 refine Gm.rws.elim λrv e=>?_
 refine h H7 ⟨_,H0,g,H3.n,H5.n,hs.length,5+(hs.length:Int),rows.map (·.1),_,rv⟩ hs rows (.ref rr) ⟨D.new,.inr (.inl rfl),tE.new (aaF _)⟩ ⟨rfl,rfl,rfl,λn hn=>(aaG.mp hn).elim λx y=>y.2▸w.rows (x.1,x.2.2) (aaG.mpr ⟨x,y.1,rfl⟩),r.l1,r.l2,(aaB (as:=rows) _).symm▸r.r1,(aaB (as:=rows) _).symm▸r.r2⟩
  ⟨(((((D.aD.tr f1).no.trans r.aD λa ha q=>q.elim id λq=>(aaP.mpr ot (q.elim (λq=>q▸ha) λq=>aaA (q▸ge.tr) ha)).elim).tn Co).Jg f5 ot).tn f6).Jg f7 D.new,Gm,(w.more λzz q=>q.elim).congr λn hn=>AF (by have:=(dS.mp hn).2;exact this),rfl,rfl,rfl,e7,Ya.mono f7 (λy zz hy=>⟨λq=>hy (.inr (.inl q)),hy⟩),e.1⟩ ((((r.cW.mono Co id).mono f5 (aaJ ge.pt)).mono f6 id).mono f7 (aaJ ge.ps))
end
structure SG (p:Nat) (H:HP) (rf ff:Nat) (r:Int × Di):Prop where
 lt:rf < H.n
 at_:H.g rf=cH r.1
 rd:RD (λy=>y≠p) H ff r.2
noncomputable def HW (p:Nat) (H:HP) (v:AV) (r:Int × Di):Prop:=∃rf ff,v= .tup [.ref rf,.ref ff]/\SG p H rf ff r
structure lY (p:Nat) (H:HP) (s t rw:Nat) (vs:List AV) (x:Doc × List (Int × Di)):Prop where
 rs:RS (λy=>y≠p) H s t x.1.tab x.1.tr
 hs:s≠p
 ht:t≠p
 hr:rw≠p
 lt:rw < H.n
 e:H.g rw= .list vs
 l:L2 (HW p H) vs x.2
structure vI (x:Doc × List (Int × Di)):Prop where
 all:d9 x.1 x.2
 l1:1<=x.2.length
 l7:x.2.length<=7
noncomputable def oT (p:Nat) (H:HP) (v:AV) (x:Doc × List (Int × Di)):Prop:=∃s t rw vs,v= .tup [.ref s,.ref rw]/\vI x/\lY p H s t rw vs x
section
variable {G:Nat->aj} {H H':HP} {Q:KV} {k p:Nat} {x:Doc × List (Int × Di)} {v:AV}
theorem HW.mono (f:ai (atS p) H H') {r:Int × Di} (a:HW p H v r):HW p H' v r:=a.imp λrf a=>a.imp λff a=>⟨a.1,f.lt a.2.lt,f.fix a.2.lt a.2.at_ rfl,a.2.rd.mono f λy zz hy=>⟨hy,hy⟩⟩
theorem lY.mono {s t rw:Nat} {vs:List AV} (f:ai (atS p) H H') (r:lY p H s t rw vs x):lY p H' s t rw vs x:=
 ⟨r.rs.mono f (λy zz hy=>⟨hy,hy⟩) r.hs r.ht,r.hs,r.ht,r.hr,f.lt r.lt,f.ne r.lt r.e r.hr,r.l.imp λzz zz r=>r.mono f⟩
theorem oT.mono (f:ai (atS p) H H') (r:oT p H v x):oT p H' v x:=r.imp λs r=>r.imp λt r=>r.imp λrw r=>r.imp λvs r=>⟨r.1,r.2.1,r.2.2.mono f⟩
theorem Ee {a:Nat} {xs:List AV} (e:H.g a= .list xs) (e':H'.g a= .list xs):ck (.obj a) xs ((Src.obj a).gW H) H':=⟨aH e',by show jk _ (H'.g a)=jk _ (H.g a);rw [e,e'];rfl⟩
theorem G0 {P:Nat->Prop} {l:List (Nat × Di)}:∀{n:Nat},(∀x∈l,RD P H x.1 x.2)->L2 (RT P H) (ents ((n:Int)+1) l) (mj n l):=by
 induction l with
 | nil=>exact λzz=>.nil
 | cons x l ih=>exact λ{n} h=>.cons ⟨rfl,.ref x.1,rfl,x.1,rfl,h x (.head _)⟩ (ih (n:=n+1) λy hy=>h y (.tail _ hy))
theorem HN {c:Gp} {g:mX} {H0:HP} {hk:List (Nat × Di)} {rows:List (Int × Nat × Di)} (F:Wc c g H0) (a:Cq c hk rows H):∃x,vI x/\lY c.g.p H c.g.s c.g.t c.g.rw c.rv x:=by
 have ge:=a.gi.i5
 have WZ:(db rows).length=c.num.length:=(aaB _).trans (a.num▸(aaB _).symm)
 have w:=a.gw
 rw [<-a.len] at w
 have hl:=a.len
 refine (GC ⟨w,a.len▸F.l2,aaw (a.len▸F.l7) (by decide),λn hn=>a.len▸F.num n hn⟩).elim λsp da=>?_
 have z:cX aJ (λy=>¬c.X y) (λy=>y≠c.g.p) H:=λzz zz hy=>⟨id,(λhy q=>hy (q▸a.gi.xp)) hy⟩
 have e:c.c=5+(hk.length:Int):=F.ec.trans (hl▸rfl)
 refine ⟨(mZ hk c.ca sp,db rows),⟨da,WZ▸F.n1,WZ▸F.n7⟩,⟨a.gi.sl,a.gi.tl,⟨c.LD,a.sh,(by show RD _ H c.LD (Py (5+(hk.length:Int)));rw [<-e];exact a.tr.mono (.refl:ai aJ H H) z)⟩,a.gi.tab.elim λwY e=>⟨_,e.1,(e.2.imp λzz zz r=>RT.mono (.refl:ai aJ H H) (λy zz hy=>⟨id,aaN (aax (aaA ge.pt ge.tl) hy.1)⟩) r).append (G0 λx hx=>(a.gi.heads x hx).mono (.refl:ai aJ H H) z)⟩,jw,?_⟩,aaN ge.ps,aaN ge.pt,aaN (aaA ge.pt ge.tr),a.gi.qe,a.rv,?_⟩
 .show (cR (hk++[(c.ca,fN)])).length < 64
  rw [jh,aaD,abe]
  exact aaz (abj (aa1 (aaw (aaS hl) F.l7)) 4) (by decide)
 .refine a.gi.rws.elim λvs e=>?_
  cases a.rv.symm.trans e.1
  exact L2.xq (e.2.wm.imp λv x r=>r.1.elim λrf q=>(bH rf x.2.1 ⟨q.1,q.2.1,q.2.2,(a.gi.gg x r.2).mono (.refl:ai aJ H H) z⟩))
structure YG (c:Gp) (B j:Nat) (loc:Loc) (H:HP):Prop where
 ex:∃hk rows,Cq c hk rows H
 cW:aO H c.g.p (B+j*2)
 l0:loc "pen"= .ref c.g.p
 l1:loc "rows"= .ref c.g.rw
 l2:loc "shelf"= .ref c.g.s
theorem yi (m:aQ G) {B:Nat} (cW:aO H p B) (hB:B < 30000) (h:∀H' v x,ai (atS p) H H'->aO H' p (B+900)->oT p H' v x->Q v H'):G (k+8) "_law_document" [.ref p] H Q:=by
 refine Bw m cW.1 λH1 g ep D=>?_
 subst ep
 refine EC m D (cW.mono D.aD id) hB λH2 c hk rows v ok F a mQ=>?_
 clear D;obtain rfl:=F.eg
 have hr:c.rv.length<=7:=a.gi.rws.elim λvs e=>by
  cases a.rv.symm.trans e.1
  have:=congrArg List.length a.num
  rw [aaB] at this
  exact e.2.len▸this▸F.n7
 refine dF (aH a.rv) (Ip (d:=[]) (all:=c.rv) (r:=λv w=>v=w/\v∈c.rv) (λd=>YG c (B+700) d.length) (λJ=>aq J.ex λhk rows z=>Ee a.rv z.rv) (λv w d rest e rv loc H3 C J hC zz=>?_) (L2.diag λx hx=>⟨rfl,hx⟩) rfl ⟨(bH hk rows a),mQ,rfl,rfl,rfl⟩ λloc' H3 J=>?_)
 .refine aq J.ex λhk rows a=>(List.mem_iff_getElem?.mp rv.2).elim λj hj=>?_
  refine hY (a.at hj) λrf ff zz zz zz zz z=>bj z λzz zz zz w=>?_
  rw [w.1] at hj ⊢
  have dl:=congrArg List.length e
  rw [aaD,aa2] at dl
  refine AW m ok a J.cW (zF (aaQ hB (abt 2 (aaw (aaS dl.symm) hr))) (by simp+arith)) hj ⟨J.l0,J.l1,J.l2,rfl,rfl⟩ λH4 ZG y7 aF a4 UD s=>hC _ H4 ⟨(bH y7 aF a4),UD.up ?_,(s _ rfl).trans J.l0,(s _ rfl).trans J.l1,(s _ rfl).trans J.l2⟩
  rw [aaD,abe];exact by simp+arith
 .exact aq J.ex λhk rows a=>(HN F a).elim λx q=>ak (v:= .ref c.g.s) J.l2 (ak (v:= .ref c.g.rw) J.l1 (h H3 _ x (F.h0▸a.aD) (J.cW.up (abj (aaw (Nat.mul_le_mul_right 2 hr) (by decide:7*2<=200)) _)) (jW _ _ _ _ ⟨rfl,q⟩)))
end
theorem Ha (o:Ob) (n:Nat):(qO o).plain (n+6)=true:=match o with
 | .null=>rfl
 | .dict d=>jK d (n+2)
 | .stream d b=>by
  show (true&&((md d).plain (n+5)&&true))=true
  rw [jK d (n+1)];rfl
theorem Hn (tab:List (Int × Ob)) (tr:Di) (n:Nat):(Fe tab tr).plain (n+10)=true:=by
 show (AV.eu _ (n+8)&&((md tr).plain (n+9)&&true))=true
 refine (congrArg (λb=>b&&_) (bX λx hx=>(aaG.mp hx).elim λw z=>z.2▸ ?_)).trans (by rw [jK tr (n+5)];rfl)
 show (true&&(true&&((qO w.2).plain (n+7)&&true)))=true
 rw [Ha w.2 (n+1)];rfl
theorem L2.comp {α β γ:Type} {r:α->β->Prop} {q:β->γ->Prop} {l:List α} {m:List β} (a:L2 r l m):∀{n:List γ},L2 q m n->L2 (λx z=>∃y,r x y/\q y z) l n:=by
 induction a with
 | nil=>exact λb=>b.flip.df▸ .nil
 | cons x _ ih=>exact λb=>aq b.flip.aX λz l' w=>w.1▸ .cons ⟨_,x,w.2.1⟩ (ih w.2.2.flip)
theorem L2.drop {α β:Type} {r:α->β->Prop} {l:List α} {m:List β} (h:L2 r l m):∀n:Nat,L2 r (l.drop n) (m.drop n):=
 h.rec (λn=>by rw [List.drop_nil,List.drop_nil];exact .nil) λa b ih n=>match n with
  | 0=>.cons a b
  | n+1=>ih n
theorem L2.take {α β:Type} {r:α->β->Prop} {l:List α} {m:List β} (h:L2 r l m):∀n:Nat,L2 r (l.take n) (m.take n):=
 h.rec (λn=>by rw [List.take_nil,List.take_nil];exact .nil) λa zz ih n=>match n with
  | 0=>.nil
  | n+1=>.cons a (ih n)
theorem d9.xR {D:Doc} {rows:List (Int × Di)} (a:d9 D rows):(ar D.sp).length=rows.length:=a.rows.len.symm
theorem d9.SH {D:Doc} {rows:List (Int × Di)} (a:d9 D rows):zX D:=λp hp=>⟨(a.Rt p hp).1.ok,(a.Rt p hp).1.len⟩
theorem d9.Ps {D:Doc} {rows:List (Int × Di)} (a:d9 D rows) {docs:List Doc} {pl:Pl} (h:∀x∈pl,docs[x.1]? =some D/\x.2∈ar D.sp):fB docs pl:=λx hx=>⟨D,(h x hx).1,a.Rt x.2 (h x hx).2⟩
noncomputable def RP (Γ:aj) (sh ix:AV) (H:HP) (P:HP->Prop):Prop:=
 X.call "pages" (.o (.loc "shelf")) Γ ((Loc.new.upd "shelf" sh).upd "indexes" ix) H λv H1=>qV Γ (((Loc.new.upd "shelf" sh).upd "indexes" ix).upd "row" v) H1 λu H2=>cP u H2 λb H3=>b=true/\P H3
section
variable {G:Nat->aj} {H H':HP} {Q:KV} {k p:Nat} {P:Nat->Prop} {Γ:aj} {loc:Loc} {x:Doc × List (Int × Di)}
theorem rJ {w:X} {i s t AK:Nat} {vs:List AV} {docs:List Doc} (D:vI x) (rd:lY p H s t AK vs x) (hD:docs[i]? =some x.1) (ew:∀(a b:AV) H' (K:KV),K (.int i) H'->w Γ ((loc.upd "reference" a).upd "fields" b) H' K) (v1:loc "shelf"= .ref s)
  (h:tU (dN (λy=>y≠p) docs) Q H aJ (gU i x.1)):
  eV (X.tup (.cons w (.cons (.loc "shelf") (.cons (.loc "reference") (.o (.loc "fields"))))) Γ) (.tup ["reference","fields"]) .plain (X.yes Γ) loc Q [.ref AK] H:=by
 refine cB (aH rd.e) rd.lt (λq=>(i,q)) (λzz zz zz zz f r=>r.mn f) (rd.l.comp D.all.rows) (rd.l.len▸aaw D.l7 (by decide)) (λv q H' C N rv f hC=>?_) h
 refine rv.elim λr z=>aq z.1 λrf ff y=>y.1▸ew _ _ _ _ ?_
 refine ak (v:= .ref s) v1 (hC H' _ .refl (AH s t rf ff x.1 r.2 ⟨rfl,hD,rd.rs.mono f (λzz zz h=>⟨id,h⟩) id id,f.lt y.2.lt,(f.fix y.2.lt y.2.at_ rfl).trans (congrArg _ (z.2.1)),y.2.rd.mn f,aaz z.2.2.2 (by decide),z.2.2.1⟩))
theorem D4 (m:aQ G) {s t xi:Nat} {D:Doc} {rows:List (Int × Di)} {ix:List Int} (a:d9 D rows) (rs:RS P H s t D.tab D.tr) (Gw:xi < H.n) (MC:H.g xi= .list (ix.map AV.int)) (PJ:ix.length < 100) (bad:∃i∈ix,¬(0<=i/\i < (rows.length:Int)))
  {P':HP->Prop} (h:∀H',ai aJ H H'->P' H'):RP (G (k+7)) (.ref s) (.ref xi) H P':=by
 refine kI m rs a.ok.tree a.ok.ok λH1 ra vs f1 h1 h2 h3 h4=>?_
 refine eJ (aH (f1.keep Gw MC)) (f1.lt Gw) AV.int (λi=>!(decide (0<=i)&&decide (i < (vs.length:Int)))) (r:=λv i=>v=AV.int i) (L2.mJ (L2.diag λx hx=>rfl)) (by rw [aaB];exact aaI (aaA PJ (by decide))) (λv i H2 C N r f y n=>r▸yO (λq1=>ad (f.keep h2 h3) (yO (λq2=>n ?_ H2 f) λq2=>y ?_ H2 f)) λq1=>y ?_ H2 f) λH2 a2 f2 qA lD e2=>?_
 .rw [decide_eq_true q1,decide_eq_true q2];rfl
 .rw [decide_eq_true q1,decide_eq_false q2];rfl
 .rw [decide_eq_false q1];rfl
 refine cN λH3 f3 n3 e3=>ad (f3.keep lD e2) (ad e3 (.inr ⟨λq=>?_,rfl,h _ ((f1.tr f2).tr f3)⟩))
 rw [aaB] at q
 refine bad.elim λi b=>(aaU (a:=i) ?_).elim
 rw [<-List.length_eq_zero_iff.mp q,abk]
 refine ⟨b.1,?_⟩
 rw [Bool.not_eq_true',Bool.and_eq_false_iff]
 by_cases q1:0<=i
 .exact .inr (decide_eq_false λq2=>b.2 ⟨q1,(h4.len.trans a.xR)▸q2⟩)
 .exact .inl (decide_eq_false q1)
end
noncomputable def Ql:SL:= .o (.set "left" (.zH (.loc "left") (.loc "many")))
noncomputable def Qb:SL:= .cons (.bA (.cmp .ne (.yy (.loc "left") (.loc "many")) (.list .nil)) (.o (.expr (.ay (.loc "due") "append" (.o (.yy (.loc "left") (.loc "many")))))) .nil) Ql
noncomputable def Kt:SL:= .cons (.set "many" (.prim "max" (.cons (.loc "size") (.o (.int 0))))) Qb
noncomputable def tF (ws:List AV) (du:Nat) (H:HP) (v:AV) (x:Nat × Nat):Prop:=∃la,v= .ref la/\(du < la/\la < H.n)/\H.g la= .list ((ws.drop x.1).take (x.2 - x.1))
theorem mE {α:Type} {ws:List α} {f:Nat} {z:Int}:(ws.drop f).take z.toNat=(ws.drop f).take (bu z f ws.length - f):=by
 unfold bu
 by_cases h:f+z.toNat<=ws.length
 .rw [Nat.min_eq_left h,Nat.add_sub_cancel_left]
 .rw [Nat.min_eq_right (Nat.le_of_not_le h),List.take_of_length_le (by rw [List.length_drop];exact Nat.sub_le_iff_le_add'.mpr (aaI (Nat.not_le.mp h))),List.take_of_length_le (by rw [List.length_drop];exact aaF _)]
theorem wu {α:Type} {ws:List α} {f:Nat} {z:Int}:(ws.drop f).drop z.toNat=ws.drop (bu z f ws.length):=by
 unfold bu
 rw [List.drop_drop]
 by_cases h:f+z.toNat<=ws.length
 .rw [Nat.min_eq_left h]
 .rw [Nat.min_eq_right (Nat.le_of_not_le h),List.drop_eq_nil_of_le (Nat.le_of_not_le h),List.drop_eq_nil_of_le (aaF _)]
theorem Hg {z:Int}:(if (0:Int) > z then 0 else z)=((z.toNat:Nat):Int):=by
 by_cases h:z < 0
 .rw [if_pos h,Int.toNat_of_nonpos (Int.le_of_lt h)];rfl
 .rw [if_neg h,Int.toNat_of_nonneg (Int.not_lt.mp h)]
structure GG where
 ws:List AV
 da:Nat
 ka:Nat
 s:Nat
 rw:Nat
 pa:Nat
 du:Nat
structure Dy (c:GG) (loc:Loc):Prop where
 l0:loc "documents"= .ref c.da
 l1:loc "kept"= .ref c.ka
 l2:loc "shelf"= .ref c.s
 l3:loc "rows"= .ref c.rw
 l4:loc "parts"= .ref c.pa
 l5:loc "due"= .ref c.du
structure Hv (c:GG) (H0:HP) (dn:List Int) (lc:Nat) (ds:List AV) (loc:Loc) (H:HP):Prop where
 aD:ai (atS c.du) H0 H
 ed:H.g c.du= .list ds
 ld:L2 (tF c.ws c.du H) ds (js dn 0 c.ws.length)
 lt:lc < H.n
 ne:lc≠c.du
 el:H.g lc= .list (c.ws.drop (dg dn 0 c.ws.length))
 vl:loc "left"= .ref lc
 v:Dy c loc
section
variable {H H' H0:HP} {C:KS} {Γ:aj} {loc:Loc} {c:GG} {dn:List Int} {z:Int} {lc:Nat} {ds:List AV}
theorem tF.mono {ws:List AV} {du:Nat} (f:ai (atS du) H H') {v:AV} {x:Nat × Nat} (r:tF ws du H v x):tF ws du H' v x:=r.imp λla r=>⟨r.1,⟨r.2.1.1,f.lt r.2.1.2⟩,f.ne r.2.1.2 r.2.2 (aaN r.2.1.1)⟩
theorem uL (Gl:c.du < H0.n) (aD:ai (atS c.du) H0 H) (ed:H.g c.du= .list ds) (ld:L2 (tF c.ws c.du H) ds (js (dn++[z]) 0 c.ws.length)) (lt:lc < H.n) (ne:lc≠c.du) (el:H.g lc= .list (c.ws.drop (dg dn 0 c.ws.length))) (vl:loc "left"= .ref lc) (vm:loc "many"= .int (z.toNat:Nat)) (v:Dy c loc)
  (h:∀loc' H' Hj,Hv c H0 (dn++[z]) Hj ds loc' H'->C .next loc' H'):Ql Γ loc H C:=by
 refine ak vl (ak vm (ad el (cN λH1 f1 n1 e1=>h _ H1 H.n ⟨aD.tn f1,f1.keep (aD.lt Gl) ed,ld.imp λzz zz r=>r.mono f1.no,n1▸aaC _,aaN (aD.lt Gl),e1.trans (congrArg AO.list ?_),rfl,v.l0,v.l1,v.l2,v.l3,v.l4,v.l5⟩)))
 exact (wu (z:=z)).trans (congrArg (λn=>c.ws.drop n) vM.symm)
theorem FT (Gl:c.du < H0.n) (I:Hv c H0 dn lc ds loc H) (hl:ds.length < lim) (h:∀loc' H' Hj BW,Hv c H0 (dn++[z]) Hj BW loc' H'->C .next loc' H'):Kt Γ (loc.upd "size" (.int z)) H C:=by
 show Qb Γ ((loc.upd "size" (.int z)).upd "many" (.int (if (0:Int) > z then 0 else z))) H C
 rw [Hg]
 have hd:=I.aD.lt Gl
 refine ak I.vl (ad I.el (cN λH1 f1 n1 e1=>cN λH2 f2 n2 e2=>ad (f2.keep (n1▸aaC _) e1) (ad e2 ?_)))
 have oW:=f1.tr f2
 have e1:H1.g H.n= .list ((c.ws.drop (dg dn 0 c.ws.length)).take z.toNat):=e1
 have cs:=rN (count:=c.ws.length) (z:=z) (l:=dn) (first:=0)
 have hlen:((c.ws.drop (dg dn 0 c.ws.length)).take z.toNat).length=bu z (dg dn 0 c.ws.length) c.ws.length - dg dn 0 c.ws.length:=by
  rw [mE,List.length_take,List.length_drop]
  exact Nat.min_eq_left (Nat.sub_le_sub_right (Nat.min_le_right _ _) _)
 have ld:=I.ld.imp λzz zz r=>tF.mono oW.no r
 by_cases hb:dg dn 0 c.ws.length < bu z (dg dn 0 c.ws.length) c.ws.length
 .refine .inr ⟨λq=>absurd (hlen.symm.trans q) (aaN (Nat.sub_pos_of_lt hb)),ak I.v.l5 (ad (oW.keep hd I.ed) (ak I.vl (ad (oW.keep I.lt I.el) (cN λH3 f3 n3 e3=>?_))))⟩
  have mK:=oW.tr f3
  refine BF (mK.keep hd I.ed) hl λH4 f4 n4 e4=>?_
  have l2:c.du < H2.n:=oW.lt hd
  refine uL Gl ((I.aD.tn mK).tr f4) e4 ?_ (f4.lt (mK.lt I.lt)) I.ne (f4.ne (mK.lt I.lt) (mK.keep I.lt I.el) I.ne) I.vl rfl ⟨I.v.l0,I.v.l1,I.v.l2,I.v.l3,I.v.l4,I.v.l5⟩ λloc' H' Hj=>h loc' H' Hj _
  rw [cs,qy,if_pos hb]
  exact (ld.imp λzz zz r=>(r.mono f3.no).mono f4).snoc ⟨H2.n,rfl,⟨l2,f4.lt (n3▸aaC _)⟩,f4.ne (n3▸aaC _) (e3.trans (congrArg AO.list mE)) (aaN l2)⟩
 .have e0:(c.ws.drop (dg dn 0 c.ws.length)).take z.toNat=[]:=List.length_eq_zero_iff.mp (hlen.trans (Nat.sub_eq_zero_of_le (Nat.le_of_not_lt hb)))
  refine .inl ⟨⟨e0,(congrArg (AV.eu · eG) e0).trans rfl⟩,?_⟩
  refine uL Gl (I.aD.tn oW) (oW.keep hd I.ed) ?_ (oW.lt I.lt) I.ne (oW.keep I.lt I.el) I.vl rfl ⟨I.v.l0,I.v.l1,I.v.l2,I.v.l3,I.v.l4,I.v.l5⟩ λloc' H' Hj=>h loc' H' Hj _
  rw [cs,qy,if_neg hb,aaY]
  exact ld
theorem E6 {zs:List Int} {za la:Nat} {vs:List AV} (v0:loc "sizes"= .ref za) (XQ:H0.g za= .list (zs.map AV.int)) (ZF:za < H0.n) (erw:H0.g c.rw= .list vs) (hv:vs.length=c.ws.length) (Gl:c.du < H0.n) (ZK:H0.g c.du= .list []) (VV:la < H0.n) (Zi:H0.g la= .list c.ws) (Zt:la≠c.du) (hz:zs.length < 100) (vl:loc "left"= .ref la) (v:Dy c loc)
  (h:∀loc' H' ds,Dy c loc'->ai (atS c.du) H0 H'->H'.g c.du= .list ds->L2 (tF c.ws c.du H') ds (js (zs++[(c.ws.length:Int)]) 0 c.ws.length)->C .next loc' H'):
  S.bW (.nm "size") .plain (.o (.bin .add (.loc "sizes") (.list (.o (.prim "len" (.o (.loc "rows"))))))) Kt Γ loc H0 C:=by
 refine ak v0 (ak v.l3 (ad erw (cN λH1 f1 n1 e1=>ad (f1.keep ZF XQ) (ad e1 ⟨?_,cN λH2 f2 n2 e2=>?_⟩))))
 .show (zs.map AV.int).length+1<=lim
  rw [aaB];exact aaw hz (by decide)
 have oW:=f1.tr f2
 have e2:H2.g H1.n= .list ((zs++[(c.ws.length:Int)]).map AV.int):=by rw [aaL,<-hv];exact e2
 refine dF (aH e2) (Ip (d:=[]) (all:=zs++[(c.ws.length:Int)]) (r:=λv z=>v=AV.int z) (λdn loc' H'=>∃lc ds,Hv c H2 dn lc ds loc' H') (λJ=>aq J λlc ds I=>bC I.aD (n2▸aaC _) (aaN (f1.lt Gl)) ⟨aH e2,rfl⟩) (λv z dn rest ed rv loc' H' C' J hC zz=>?_) (L2.mJ (L2.diag λzz zz=>rfl)) rfl (bH la ([]) ⟨.refl,oW.keep Gl ZK,.nil,oW.lt VV,Zt,oW.keep VV Zi,vl,v⟩) λloc' H' J=>?_)
 .subst rv
  refine aq J λlc ds I=>FT (oW.lt Gl) I ?_ λloc' H' Hj BW I'=>hC loc' H' (bH Hj BW I')
  have dl:=congrArg List.length ed
  rw [aaD,aaD,aa2,aa2,List.length_nil] at dl
  exact aaz ((zF (aaQ (aaQ hz (aaS dl.symm)) (aaQ (nR (count:=c.ws.length) (l:=dn) (first:=0)) (aaS I.ld.len))) (by simp+arith)):ds.length<=100) (by decide)
 .exact aq J λlc ds I=>h loc' H' ds I.v (oW.no.tr I.aD) I.ed I.ld
end
noncomputable def nH (x:Doc × List (Int × Di)):AV:=Fe x.1.tab x.1.tr
noncomputable def Qh:Tg:= .tup ["shelf","rows"]
noncomputable def JN (w:X):X:= .aC (.tup (.cons w (.cons (.loc "shelf") (.cons (.loc "reference") (.o (.loc "fields")))))) (.tup ["reference","fields"]) .plain (.o (.loc "rows")) X.yes
noncomputable def Fv:SL:= .cons (.bM ["shelf","rows"] (.idx (.loc "documents") (.loc "which"))) (.o (.set "every" (.bin .add (.loc "every") (JN (.loc "which")))))
noncomputable def IsL (H:HP) (a:Nat) (xs:List AV):Prop:=a < H.n/\H.g a= .list xs
section
variable {G:Nat->aj} {H H':HP} {Q:KV} {k p da:Nat} {Γ:aj} {loc:Loc} {dv:List AV} {xs:List (Doc × List (Int × Di))} {docs:List Doc}
theorem IsL.mn {a:Nat} {xs:List AV} (h:IsL H a xs) (f:ai aJ H H'):IsL H' a xs:=⟨f.lt h.1,f.keep h.1 h.2⟩
theorem pq {elt:PX} {cs:PC} {tg:Tg} {n:Nat} (hn:n<=lim) (J:Nat->List AV->HP->Prop) (hl:∀{j acc H},J j acc H->acc.length<=j)
  (step:∀j,j < n->∀acc H (C:KV) (N:HP->Prop),J j acc H->(∀u H',J (j+1) (acc++[u]) H'->C u H')->(∀H',J (j+1) acc H'->N H')->Gq elt cs tg loc (.int j) H C N)
  (h0:J 0 [] H) (hQ:∀acc H,J n acc H->nw (.list acc) H Q):eV elt tg .aE cs loc Q [.int n] H:=by
 have go:∀k j acc H,j+k=n->J j acc H->iZ elt cs tg (ck (.Gs n) (aN 0 n) 0) loc ((List.range' j k).map λ(i:Nat)=>AV.int (0+(i:Int))) H acc (LW Q):=by
  intro k
  induction k with
  | zero=>exact λj acc H e h=>hQ acc H (e▸h)
  | succ k ih=>
   refine λj acc H e h=>?_
   have hj:j < n:=e▸abl (Nat.succ_pos k)
   have e':j+1+k=n:=by rw [<-e,aa9,abg 1]
   rw [abD,aa4,Int.zero_add]
   exact step j hj acc H _ _ h (λu H' h'=>⟨⟨rfl,rfl⟩,aaz (hl h) (aax hj hn),ih (j+1) _ H' e' h'⟩) λH' h'=>⟨⟨rfl,rfl⟩,ih (j+1) acc H' e' h'⟩
 refine KO (Nat.ble_eq.mpr hn) (dF (v:=aN 0 n) rfl ?_)
 have:=go n 0 [] H (abE n) h0
 rw [<-List.range_eq_range'] at this
 exact (show aN 0 n=(List.range n).map λ(i:Nat)=>AV.int (0+(i:Int)) by unfold aN;rw [Int.sub_zero];rfl)▸this
theorem qL (m:aQ G) (ld:IsL H da dv) (hx:L2 (oT p H) dv xs) (hl:xs.length<=2) (h:pK Q H aJ (xs.map nH)):
  eV (X.ay (.loc "shelf") "told" .nil (G (k+7))) Qh .plain (X.yes (G (k+7))) loc Q [.ref da] H:=by
 refine dX (aH ld.2) ld.1 nH hx (hx.len▸aaw hl (by decide)) (λv x H' C N r f hC=>?_) h
 refine bF r λs t AK vs r=>r.1▸ ?_
 have rs:=r.2.2.rs.mn f
 exact rs.ins.elim λq e=>ad e.1 (sf m rs r.2.1.all.ok.ok r.2.1.all.ok.Kw λbz f2=>hC bz (f.tr f2))
theorem sS (ld:IsL H da dv) (hx:L2 (oT p H) dv xs) (hl:xs.length<=2) (h:tU (TE (λy=>y≠p)) Q H aJ (xs.map (·.1))):
  eV (X.loc "shelf" Γ) Qh .plain (X.yes Γ) loc Q [.ref da] H:=by
 refine cB (aH ld.2) ld.1 (λx:Doc × List (Int × Di)=>x.1) (λzz zz zz zz f r=>r.imp λs r=>r.imp λt r=>⟨r.1,r.2.mn f⟩) hx (hx.len▸aaw hl (by decide)) (λv x H' C N r f hC=>?_) h
 exact bF r λs t AK vs r=>r.1▸hC H' _ .refl (bH s t ⟨rfl,r.2.2.rs.mn f⟩)
structure L4 (p da ka:Nat) (loc:Loc):Prop where
 l0:loc "pen"= .ref p
 l1:loc "documents"= .ref da
 l2:loc "kept"= .ref ka
structure Tk (p da ka:Nat) (H:HP) (docs:List Doc) (j:Nat) (loc:Loc) (H':HP):Prop where
 aD:ai aJ H H'
 ex:∃ec wv,IsL H' ec wv/\loc "every"= .ref ec/\L2 (dN (λy=>y≠p) docs H') wv (bY 0 (docs.take j))
 v:L4 p da ka loc
theorem yd {QS:KS} {ka ea:Nat} (ld:IsL H da dv) (hx:L2 (oT p H) dv xs) (hl:xs.length<=2) (hp:(qI (xs.map (·.1))).length<=14) (le:IsL H ea []) (v:L4 p da ka loc) (v2:loc "every"= .ref ea)
  (h:∀loc' H',Tk p da ka H (xs.map (·.1)) xs.length loc' H'->QS .next loc' H'):S.bW (.nm "which") .aE (.o (.prim "len" (.o (.loc "documents")))) Fv Γ loc H QS:=by
 refine ak v.l1 (ad ld.2 ?_)
 refine (congrArg (λ(n:Nat)=>w4 (.nm "which") .aE _ _ _ [.int n] H) hx.len).mpr ?_
 refine Dj (aaw hl (by decide)) (Tk p da ka H (xs.map (·.1))) (λj hj loc' H' C I hC zz=>?_) ⟨.refl,(bH ea ([]) ⟨le,v2,.nil⟩),v⟩ h
 have Uq:xs[j]? =some xs[j]:=aaR hj
 generalize xs[j]=x at Uq
 have hD:(xs.map (·.1))[j]? =some x.1:=by rw [abc,Uq];rfl
 refine (hx.get Uq).elim λu z=>bF z.2 λs t AK vs r=>ak I.v.l1 (ad (I.aD.keep ld.1 ld.2) (dF (v:=u) z.1 (r.1▸ ?_)))
 refine aq I.ex λec wv w=>ak w.2.1 (rJ (i:=j) r.2.1 (r.2.2.mono I.aD.no) hD (λa b H' K h=>h) rfl λH2 a2 ac f2 h1 h2 h3 h4=>ad (f2.keep w.1.1 w.1.2) (ad h3 ⟨?_,cN λH3 f3 n3 e3=>?_⟩))
 .have N7:=qQ (docs:=xs.map (·.1)) (j:=j+1)
  rw [fH hD,aaD] at N7
  rw [w.2.2.len,h4.len]
  exact aaw N7 (aaw hp (by decide))
 .have Xd:=f2.tr f3
  refine hC _ H3 ⟨I.aD.tr Xd,(bH H2.n (wv++ac) ⟨⟨n3▸aaC _,e3⟩,rfl,?_⟩),⟨I.v.l0,I.v.l1,I.v.l2⟩⟩
  rw [fH hD]
  exact (w.2.2.imp λzz zz r=>r.mn Xd).append (h4.imp λzz zz r=>r.mn f3)
theorem oI {elt it:X} {B M:Nat} {off:Int} (cW:aO H p B)
  (hit:∀K:KV,(∀H' B' (T:Nat),ai (atS p) H H'->aO H' p B'->B'<=B+1->T<=5->K (.int T) H')->it Γ loc H K)
  (TA:∀v H' B' (K:KV),ai (atS p) H H'->aO H' p B'->B'<=B+8->(∀bz (r:Nat),ai (atS p) H' bz->aO bz p (B'+1)->r < M->K (.int (r+off)) bz)->elt Γ (loc.upd "turn" v) H' K)
  (h:∀(H':HP) (a:Nat) (ix:List Int),ai (atS p) H H'->H.n<=a->aO H' p (B+10)->IsL H' a (ix.map AV.int)->(∀i∈ix,off<=i/\i < M+off)->ix.length<=5->Q (.ref a) H'):
  X.aC elt (.nm "turn") .aE (.o it) X.yes Γ loc H Q:=by
 refine hit _ λH1 B1 T f1 gY V0 hT=>?_
 refine pq (aaw hT (by decide)) (λj acc H'=>∃ix:List Int,acc=ix.map AV.int/\ix.length=j/\(∀i∈ix,off<=i/\i < M+off)/\ai (atS p) H H'/\aO H' p (B1+j)) (λJ=>J.elim λix z=>by rw [z.1,aaB,z.2.1];exact aaF _) (λj hj acc H' C N J hC zz=>J.elim λix z=>TA _ H' (B1+j) _ z.2.2.2.1 z.2.2.2.2 (zF (aaQ V0 (aaQ hT hj)) (by simp+arith)) λbz r f xB hr=>hC _ bz ⟨ix++[(r:Int)+off],by rw [z.1,aaL];rfl,by rw [aaD,z.2.1];rfl,λi hi=>(aa6.mp hi).elim (z.2.2.1 i) λq=>aaK.mp q▸⟨Int.le_add_of_nonneg_left (aa0 _),Int.add_lt_add_right (MQ hr) _⟩,z.2.2.2.1.tr f,xB⟩) ⟨[],rfl,rfl,fm,f1,gY⟩ λacc H' J=>J.elim λix z=>cN λH2 f2 n2 e2=>?_
 exact h H2 H'.n ix (z.2.2.2.1.tn f2) z.2.2.2.1.le ((z.2.2.2.2.mono f2 id).up (zF (aaQ V0 hT) (by simp+arith))) ⟨n2▸aaC _,z.1▸e2⟩ z.2.2.1 (z.2.1▸hT)
theorem GV {D:Doc} {ix:List Int}:(∀i∈ix,0<=i/\i < ((ar D.sp).length:Int))->∃pl:Pl,CA D ix pl:=by
 induction ix with
 | nil=>exact λzz=>⟨[],.nil⟩
 | cons i r ih=>
  refine λh=>(ih λx hx=>h x (.tail _ hx)).elim λpl hp=>?_
  have:=h i (.head _)
  have hl:i.toNat < (ar D.sp).length:=(Int.toNat_lt this.1).mpr this.2
  exact ⟨(0,(ar D.sp)[i.toNat])::pl,.cons ⟨this.1,rfl,aaR hl⟩ hp⟩
end
noncomputable def Jt (i:Int):X:= .idx (.idx (.loc "rows") (.loc "index")) (.int i)
noncomputable def JF:XL:= .cons (.int 0) (.cons (.loc "shelf") (.cons (Jt 0) (.o (Jt 1))))
noncomputable def J3:X:= .aC (.tup JF) (.nm "index") .plain (.o (.loc "indexes")) X.yes
noncomputable def EW:X:= .aC (.call "_law_document" (.o (.loc "pen"))) (.nm "turn") .aE (.o (.bin .add (.int 1) (dQ 2))) X.yes
noncomputable def JD:aj->PC:=X.bN (.not (.call "_law_made_fits" (.cons (.idx (.loc "parts") (.loc "at")) (.o (.idx (.loc "due") (.loc "at")))))) X.yes
noncomputable def S5 (docs:List Doc):Prop:=∀D∈docs,∃rows,d9 D rows
section
variable {G:Nat->aj} {H H':HP} {Q:KV} {k p da:Nat} {P PM:Nat->Prop} {Γ:aj} {loc:Loc} {x:Doc × List (Int × Di)} {docs:List Doc} {pl:Pl}
theorem lS (m:aQ G) (hd:S5 docs) (hl:docs.length<=2) (hp:fB docs pl) (gx:pl.length<=60) {ms mt wl:Nat} {aa:List (Int × Ob)} {E:List (Nat × Int)} {ws:List AV} (zh:RS PM H ms mt aa Mq) (ok:ft docs pl aa E) (lw:IsL H wl ws) (hw:L2 (dN P docs H) ws pl)
  (h:∀H',ai aJ H H'->Q (.bool true) H'):G (k+9) "_law_made_fits" [.ref ms,.ref wl] H Q:=
 wA m ⟨zh,ok,hp,λD hD=>(hd D hD).elim λzz a=>a.ok.ok,λD hD=>(hd D hD).elim λzz a=>a.neg,λD hD=>(hd D hD).elim λzz a=>a.XO,hl,gx,lw.1,lw.2,hw⟩ h
theorem CT {s AK rf ff:Nat} {vs:List AV} {i:Int} {C:KV} (v0:loc "index"= .int i) (v1:loc "shelf"= .ref s) (v2:loc "rows"= .ref AK) (e:H.g AK= .list vs) (ni:qF i=true) (hv:vs[i.toNat]? =some (.tup [.ref rf,.ref ff])) (h:C (zJ 0 s rf ff) H):X.tup JF Γ loc H C:=
 ak v1 (ak v2 (ak v0 (ad e (KO ni (dF hv (ak v2 (ak v0 (ad e (KO ni (dF hv h))))))))))
theorem AY {s t AK xi:Nat} {vs:List AV} {ix:List Int} {pl:Pl} (D:vI x) (rd:lY p H s t AK vs x) (lx:IsL H xi (ix.map AV.int)) (w8:CA x.1 ix pl) (hl:ix.length<=5) (v1:loc "shelf"= .ref s) (v2:loc "rows"= .ref AK) (v3:loc "indexes"= .ref xi) (h:tU (dN (λy=>y≠p) [x.1]) Q H aJ pl):
  J3 Γ loc H Q:=by
 refine ak v3 (cB (aH lx.2) lx.1 (λy:Nat × (Int × Di)=>y) (q:=dN (λy=>y≠p) [x.1]) (λzz zz zz zz f r=>r.mn f) (r:=λv y=>∃i:Int,v= .int i/\0<=i/\y.1=0/\(ar x.1.sp)[i.toNat]? =some y.2) (L2.mJ (w8.imp λi y z=>⟨i,rfl,z⟩)) (by rw [aaB];exact aaw hl (by decide)) (λv y H' C N rv f hC=>?_) (by rw [List.map_id'];exact h))
 refine rv.elim λi z=>(D.all.rows.get z.2.2.2).elim λr q=>(rd.l.get q.1).elim λu w=>aq w.2 λrf ff b=>z.1▸ ?_
 refine CT (loc:=loc.upd "index" (.int i)) rfl v1 v2 (f.keep rd.lt rd.e) (Int.toNat_of_nonneg z.2.1▸rfl) (b.1▸w.1) (hC H' _ .refl (AH s t rf ff x.1 r.2 ⟨by rw [z.2.2.1],by rw [z.2.2.1];rfl,rd.rs.mn f,f.lt b.2.lt,(f.fix b.2.lt b.2.at_ rfl).trans (congrArg _ (q.2.1)),b.2.rd.mn f,aaz q.2.2.2 (by decide),q.2.2.1⟩))
theorem AP (m:aQ G) {B:Nat} (cW:aO H p B) (hB:B < 20000) (v1:loc "pen"= .ref p)
  (h:∀(H':HP) (a:Nat) (acc:List AV) (xs:List (Doc × List (Int × Di))),ai (atS p) H H'->H.n<=a->aO H' p (B+2000)->IsL H' a acc->L2 (oT p H') acc xs->1<=xs.length->xs.length<=2->Q (.ref a) H'):EW (G (k+8)) loc H Q:=by
 refine ak v1 (eZ m cW (aaA hB (by decide)) (M:=2) (by decide) (by decide) λH1 r f1 n1 gY hr=>?_)
 refine pq (n:=1+r) (aaw ((aaw (aaS (Uv _)) hr):1+r<=2) (by decide)) (λj acc H'=>∃xs:List (Doc × List (Int × Di)),xs.length=j/\ai (atS p) H H'/\aO H' p (B+1+900*j)/\L2 (oT p H') acc xs) (λJ=>J.elim λxs z=>z.2.2.2.len▸aaS z.1) (λj hj acc H' C N J hC zz=>J.elim λxs z=>ak (v:= .ref p) v1 (yi m z.2.2.1 (zF (aaQ hB (abt 900 (aaQ hr hj))) (by simp+arith)) λbz v x f xB rd=>hC v bz ⟨xs++[x],by rw [aaD,z.1];rfl,z.2.1.tr f,xB.up (by simp+arith),(z.2.2.2.imp λzz zz r=>r.mono f).snoc rd⟩)) ⟨[],rfl,f1,gY,.nil⟩ λacc H' J=>J.elim λxs z=>cN λH2 f2 n2 e2=>?_
 exact h H2 H'.n acc xs (z.2.1.tn f2) z.2.1.le ((z.2.2.1.mono f2 id).up (zF (abt 900 hr) (by simp+arith))) ⟨n2▸aaC _,e2⟩ (z.2.2.2.imp λzz zz r=>r.mono f2.no) (aaw (aaM 1 _) (aaS z.1.symm)) (aaw (aaS z.1) (aaw (aaS (Uv _)) hr))
theorem xV (m:aQ G) {pa du lo:Nat} {D:Doc} {rows:List (Int × Di)} {parts ds ws:List AV} {cs:List (Nat × Nat)} (a:d9 D rows) (h7:rows.length<=7) (lp:IsL H pa parts) (hp:L2 (gq D lo H) parts cs) (ld:IsL H du ds) (hd:L2 (tF ws du H) ds cs) (hw:L2 (dN (λy=>y≠p) [D] H) ws (gU 0 D)) (St:cs.length<=50)
  (v1:loc "parts"= .ref pa) (v2:loc "due"= .ref du) (h:pK Q H aJ []):
  X.aC (.loc "at") (.nm "at") .aE (.o (.prim "len" (.o (.loc "due")))) JD (G (k+9)) loc H Q:=by
 refine ak v2 (ad ld.2 ?_)
 refine (congrArg (λ(n:Nat)=>eV _ (.nm "at") .aE _ _ _ [.int n] H) hd.len).mpr ?_
 refine pq (aaw St (by decide)) (λj acc H'=>acc=[]/\ai aJ H H') (λJ=>J.1▸abp _) (λj hj acc H' C N J zz hN=>?_) ⟨rfl,.refl⟩ λacc H' J=>cN λH2 f2 n2 e2=>h H2 _ (J.2.tr f2) J.2.le (n2▸aaC _) (J.1▸e2)
 have f:=J.2
 have SZ:cs[j]? =some cs[j]:=aaR hj
 generalize cs[j]=c at SZ
 refine (hp.get SZ).elim λpv q=>(hd.get SZ).elim λdv r=>bF q.2 λms mt aa E z=>r.2.elim λla y=>?_
 refine ak (v:= .ref pa) v1 (ad (f.keep lp.1 lp.2) (dF (v:=pv) q.1 (z.1▸ak (v:= .ref du) v2 (ad (f.keep ld.1 ld.2) (dF (v:=dv) r.1 (y.1▸ ?_))))))
 have TB:me D c.1 c.2=((gU 0 D).drop c.1).take (c.2 - c.1):=by
  delta me gU
  rw [List.map_take,List.map_drop]
 have Tq:fB [D] (me D c.1 c.2):=a.Ps λx hx=>(aaG.mp hx).elim λy w=>w.2▸⟨rfl,List.mem_of_mem_drop (List.mem_of_mem_take w.1)⟩
 refine lS m (λD' hD=>aaK.mp hD▸⟨rows,a⟩) (by decide:1<=2) Tq (aaw z4 (a.xR▸aaw h7 (by decide))) (z.2.1.mn f) z.2.2 ⟨f.lt y.2.1.2,f.keep y.2.1.2 y.2.2⟩ (TB▸((hw.imp λzz zz r=>dN.mn f r).drop c.1).take (c.2 - c.1)) λbz f2=>hN bz ⟨J.1,f.tr f2⟩
end
noncomputable def Kb:X:= .aC (.ay (.loc "shelf") "told" .nil) (.tup ["shelf","rows"]) .plain (.o (.loc "documents")) X.yes
noncomputable def I9:X:= .list (.cons (.int 0) (.o (.prim "len" (.o (.loc "rows")))))
noncomputable def GK:X:= .list (.o (.neg 1))
noncomputable def vy:X:= .cmp .eq Kb (.loc "kept")
noncomputable def D8 (Γ Γ':aj) (loc:Loc) (H:HP) (Q:KV):Prop:=loc "shelf"≠ .unset/\I9 Γ loc H λix H1=>RP Γ' (loc "shelf") ix H1 λH2=>GK Γ loc H2 λXM H3=>RP Γ' (loc "shelf") XM H3 λH4=>vy Γ loc H4 Q
noncomputable def tH (Γ Γ':aj) (Q:KV):KS:=λfl loc H=>match fl with
 | .next=>D8 Γ Γ' loc H Q
 | .ret v=>Q v H
 | .brk=>False
 | .cont=>False
structure MH where
 p:Nat
 da:Nat
 ka:Nat
 s:Nat
 t:Nat
 rw:Nat
 dv:List AV
 vs:List AV
 xs:List (Doc × List (Int × Di))
 x:Doc × List (Int × Di)
structure ql (c:MH):Prop where
 hl:c.xs.length<=2
 D:vI c.x
 nd:c.da≠c.p
 nk:c.ka≠c.p
structure jZ (c:MH) (H:HP):Prop where
 ld:IsL H c.da c.dv
 hx:L2 (oT c.p H) c.dv c.xs
 lk:IsL H c.ka (c.xs.map nH)
 b:lY c.p H c.s c.t c.rw c.vs c.x
structure Bd (c:MH) (loc:Loc):Prop where
 l1:loc "documents"= .ref c.da
 l2:loc "kept"= .ref c.ka
 l3:loc "shelf"= .ref c.s
 l4:loc "rows"= .ref c.rw
section
variable {G:Nat->aj} {H H':HP} {Q:KV} {k:Nat} {loc:Loc} {c:MH}
theorem jZ.mono (S:jZ c H) (ok:ql c) (f:ai (atS c.p) H H'):jZ c H':=⟨⟨f.lt S.ld.1,f.ne S.ld.1 S.ld.2 ok.nd⟩,S.hx.imp λzz zz r=>r.mono f,⟨f.lt S.lk.1,f.ne S.lk.1 S.lk.2 ok.nk⟩,S.b.mono f⟩
theorem jZ.mn (S:jZ c H) (ok:ql c) (f:ai aJ H H'):jZ c H':=S.mono ok f.no
theorem rz (m:aQ G) (ok:ql c) (S:jZ c H) {sv:AV} (v3:sv= .ref c.s) {xi:Nat} {ix:List Int} (lx:IsL H xi (ix.map AV.int)) (PJ:ix.length < 100) {i:Int} (hi:i∈ix) (bad:¬(0<=i/\i < (c.x.2.length:Int))) {P:HP->Prop} (h:∀H',ai aJ H H'->P H'):RP (G (k+7)) sv (.ref xi) H P:=
 v3▸D4 m ok.D.all S.b.rs lx.1 lx.2 PJ ⟨i,hi,bad⟩ h
theorem Jc (m:aQ G) (ok:ql c) (S:jZ c H) (l:Bd c loc) (h:∀H',Q (.bool true) H'):vy (G (k+7)) loc H Q:=
 ak l.l1 (qL m S.ld S.hx ok.hl λH5 a5 f5 h1 h2 e5=>ak l.l2 (dO e5 (f5.keep S.lk.1 S.lk.2) (bX λy hy=>(aaG.mp hy).elim λz w=>w.2▸Hn _ _ 50) (h H5)))
theorem Iu (m:aQ G) (ok:ql c) (S:jZ c H) (l:Bd c loc) (h:∀H',Q (.bool true) H'):D8 (G (k+11)) (G (k+9)) loc H Q:=by
 refine ⟨l.l3▸AV.noConfusion,ak l.l4 (ad S.b.e (cN λH1 f1 n1 e1=>?_))⟩
 refine rz m ok (S.mn ok f1) l.l3 (ix:=[0,(c.vs.length:Int)]) ⟨n1▸aaC _,e1⟩ (by decide:2 < 100) (.tail _ (.head _)) (λq=>Int.lt_irrefl _ (S.b.l.len▸q.2)) λH2 f2=>cN λH3 f3 n3 e3=>?_
 have S3:=(S.mn ok f1).mn ok (f2.tr f3)
 exact rz m ok S3 l.l3 (ix:=[-1]) ⟨n3▸aaC _,e3⟩ (by decide:1 < 100) (.head _) (λq=>absurd q.1 (by decide)) λH4 f4=>Jc (k:=k+4) m ok (S3.mn ok f4) l h
end
noncomputable def Kd:X:= .aC (.loc "at") (.nm "at") .aE (.o (.prim "len" (.o (.loc "due")))) JD
noncomputable def zV:SL:= .o (.ret (.bool false))
noncomputable def Nb:SL:= .o (.bA (.or (.cmp .ne (.prim "len" (.o (.loc "parts"))) (.prim "len" (.o (.loc "due")))) (.cmp .ne Kd (.list .nil))) zV .nil)
noncomputable def P7:SL:= .cons (.bW (.nm "size") .plain (.o (.bin .add (.loc "sizes") (.list (.o (.prim "len" (.o (.loc "rows"))))))) Kt) Nb
noncomputable def K8:X:= .aC (.bin .sub (dQ 4) (.int 1)) (.nm "turn") .aE (.o (.int 2)) X.yes
noncomputable def Kp:SL:= .cons (.set "sizes" K8) (.cons (.set "parts" (.call "cut_into" (.cons (.loc "shelf") (.o (.loc "sizes"))))) (.cons (.set "left" (JN (.int 0))) (.cons (.set "due" (.list .nil)) P7)))
section
variable {G:Nat->aj} {H H':HP} {Q:KV} {k B:Nat} {loc:Loc} {c:MH}
theorem AN (m:aQ G) (ok:ql c) (S:jZ c H) {d:GG} (ed:d.da=c.da/\d.ka=c.ka/\d.s=c.s/\d.rw=c.rw) (v:Dy d loc) {parts ds:List AV} {cs:List (Nat × Nat)} {lo:Nat} (lp:IsL H d.pa parts) (hp:L2 (gq c.x.1 lo H) parts cs) (ld:IsL H d.du ds) (hd:L2 (tF d.ws d.du H) ds cs) (hw:L2 (dN (λy=>y≠c.p) [c.x.1] H) d.ws (gU 0 c.x.1)) (St:cs.length<=50)
  (h:∀H',Q (.bool true) H'):Nb (G (k+11)) loc H (tH (G (k+11)) (G (k+9)) Q):=by
 refine ak v.l4 (ad lp.2 (ak v.l5 (ad ld.2 (MJ (congrArg (λ(n:Nat)=>(n:Int)) (hp.len.trans hd.len.symm)) ?_))))
 refine xV (k:=k+2) m ok.D.all ok.D.l7 lp hp ld hd hw St v.l4 v.l5 λH1 a1 f1 h1 h2 e1=>cN λH2 f2 n2 e2=>dO (f2.keep h2 e1) e2 rfl ?_
 exact Iu m ok (S.mn ok (f1.tr f2)) ⟨v.l0.trans (congrArg AV.ref ed.1),v.l1.trans (congrArg AV.ref ed.2.1),v.l2.trans (congrArg AV.ref ed.2.2.1),v.l3.trans (congrArg AV.ref ed.2.2.2)⟩ h
theorem Ik (m:aQ G) (ok:ql c) (S:jZ c H) {pa za la lo:Nat} {zs:List Int} {parts ws:List AV} (lz:IsL H za (zs.map AV.int)) (hz:zs.length<=5) (lp:IsL H pa parts) (hp:L2 (gq c.x.1 lo H) parts (js (zs++[((ar c.x.1.sp).length:Int)]) 0 (ar c.x.1.sp).length)) (ll:IsL H la ws) (hw:L2 (dN (λy=>y≠c.p) [c.x.1] H) ws (gU 0 c.x.1)) (l:Bd c loc)
  (v0:loc "sizes"= .ref za) (v4:loc "parts"= .ref pa) (vl:loc "left"= .ref la) (h:∀H',Q (.bool true) H'):SL.cons (.set "due" (.list .nil)) P7 (G (k+11)) loc H (tH (G (k+11)) (G (k+9)) Q):=by
 refine cN λH1 f1 n1 e1=>?_
 have wl:ws.length=(ar c.x.1.sp).length:=hw.len.trans (aaB _)
 have l1:H.n < H1.n:=n1▸aaC _
 have z1:=lz.mn f1
 refine E6 (c:=⟨ws,c.da,c.ka,c.s,c.rw,pa,H.n⟩) (za:=za) (la:=la) v0 z1.2 z1.1 (f1.keep S.b.lt S.b.e) (S.b.l.len.trans (ok.D.all.xR.symm.trans wl.symm)) l1 e1 (ll.mn f1).1 (ll.mn f1).2 (aaJ ll.1) (aaz hz (by decide)) vl ⟨l.l1,l.l2,l.l3,l.l4,v4,rfl⟩ λloc' H2 ds v f2 ed hd=>?_
 have fL:=f1.up f2 (aaF _)
 rw [<-wl] at hp
 refine AN m ok (S.mn ok fL) ⟨rfl,rfl,rfl,rfl⟩ v (lp.mn fL) (hp.imp λzz zz r=>r.mn fL) ⟨f2.lt l1,ed⟩ hd (hw.imp λzz zz r=>r.mn fL) (aaw nR ?_) h
 rw [aaD]
 exact aaw (abb hz _) (by decide:6<=50)
theorem Hd (m:aQ G) (ok:ql c) (S:jZ c H) (cW:aO H c.p B) (hB:B < 40000) (l:Bd c loc) (v0:loc "pen"= .ref c.p) (h:∀H',Q (.bool true) H'):Kp (G (k+11)) loc H (tH (G (k+11)) (G (k+9)) Q):=by
 refine oI (M:=4) (off:= -1) cW (λK hq=>hq H B 2 .refl cW (aba _) (by decide)) (λv H' B' K f xB U3 hq=>ak v0 (eZ m xB (aaz U3 (aax (Nat.add_lt_add_right hB 8) (by decide))) (M:=4) (by decide) (by decide) λbz r f2 n2 mQ hr=>(Int.sub_eq_add_neg (a:=(r:Int)) (b:=1)▸hq bz r f2 mQ hr:K (.int ((r:Int) - 1)) bz))) λH1 za zs f1 hza gY lz hzs Vy=>?_
 have S1:=S.mono ok f1
 refine ak (v:= .ref c.s) l.l3 (P3 (k:=k) m ⟨ok.D.all.ok,S1.b.rs,lz.1,lz.2,aaz Vy (by decide),ok.D.all.SH,(ok.D.all.xR▸aaw ok.D.l7 (by decide))⟩ λH2 pa lo parts f2 q1 q2 q3 q4 q5=>?_)
 have S2:=S1.mn ok f2
 refine ak (v:= .ref c.rw) l.l4 (rJ (i:=0) (docs:=[c.x.1]) ok.D S2.b rfl (λa b H' K h=>h) l.l3 λH3 la ws f3 h1 h2 h3 hw=>?_)
 exact Ik m ok (S2.mn ok f3) ((lz.mn f2).mn f3) Vy ⟨f3.lt q2,f3.keep q2 q3⟩ (q5.imp λzz zz r=>r.mn f3) ⟨h2,h3⟩ hw ⟨l.l1,l.l2,l.l3,l.l4⟩ rfl rfl rfl h
end
noncomputable def Dn:X:= .aC (.call "_law_draw" (.cons (.loc "pen") (.o (.prim "len" (.o (.loc "rows")))))) (.nm "turn") .aE (.o (dQ 4)) X.yes
noncomputable def NO:SL:= .cons (.set "indexes" Dn) (.cons (.set "wanted" J3) (.cons (.bA (.not (.call "_law_made_fits" (.cons (.call "split_pages" (.cons (.loc "shelf") (.o (.loc "indexes")))) (.o (.loc "wanted"))))) zV .nil) Kp))
noncomputable def Nc:SL:= .cons (.bM ["shelf","rows"] (.idx (.loc "documents") (.int 0))) NO
section
variable {G:Nat->aj} {H H':HP} {Q:KV} {k B:Nat} {loc:Loc} {c:MH}
theorem Ff (m:aQ G) (ok:ql c) (S:jZ c H) (cW:aO H c.p B) (hB:B < 40000) (l:Bd c loc) (v0:loc "pen"= .ref c.p) {xi wa:Nat} {ix:List Int} {pl:Pl} {ws:List AV} (lx:IsL H xi (ix.map AV.int)) (w8:CA c.x.1 ix pl) (hl:ix.length<=5) (lw:IsL H wa ws) (hw:L2 (dN (λy=>y≠c.p) [c.x.1] H) ws pl) (v3:loc "indexes"= .ref xi) (v4:loc "wanted"= .ref wa)
  (h:∀H',Q (.bool true) H'):SL.cons (.bA (.not (.call "_law_made_fits" (.cons (.call "split_pages" (.cons (.loc "shelf") (.o (.loc "indexes")))) (.o (.loc "wanted"))))) zV .nil) Kp (G (k+11)) loc H (tH (G (k+11)) (G (k+9)) Q):=by
 have wE:pl.length<=5:=w8.len▸hl
 refine ak l.l3 (ak v3 (zB (k:=k+1) m ⟨ok.D.all.ok,S.b.rs,lx.1,lx.2,w8,aaw (abb wE 4) (by decide),ok.D.all.SH⟩ λH1 ms mt aa E f1 h1 rs Re=>ak v4 ?_))
 have hp:fB [c.x.1] pl:=ok.D.all.Ps λy hy=>(w8.HF hy).elim λi z=>⟨by rw [z.2.2.1];rfl,aaO z.2.2.2⟩
 refine lS (k:=k+2) m (λD' hD=>aaK.mp hD▸⟨c.x.2,ok.D.all⟩) (by decide:1<=2) hp (aaw wE (by decide)) rs Re (lw.mn f1) (hw.imp λzz zz r=>dN.mn f1 r) λH2 f2=>?_
 have fL:=f1.tr f2
 exact Hd m ok (S.mn ok fL) (cW.mono fL id) hB l v0 h
theorem Cb (m:aQ G) (ok:ql c) (S:jZ c H) (cW:aO H c.p B) (hB:B < 30000) (l:Bd c loc) (v0:loc "pen"= .ref c.p) (h:∀H',Q (.bool true) H'):NO (G (k+11)) loc H (tH (G (k+11)) (G (k+9)) Q):=by
 have vl:=S.b.l.len
 refine oI (M:=c.vs.length) (off:=0) cW (λK hq=>ak v0 (eZ m cW (aaA hB (by decide)) (M:=4) (by decide) (by decide) λH1 r f1 n1 gY hr=>hq H1 _ r f1 gY (aaF _) (aaw (aaI hr) (by decide)))) (λv H' B' K f xB U3 hq=>ak v0 (ak l.l4 (ad (f.ne S.b.lt S.b.e S.b.hr) (eZ m xB (aaz U3 (aax (Nat.add_lt_add_right hB 8) (by decide))) (vl▸ok.D.l1) (aaz (vl▸ok.D.l7) (by decide)) λbz r f2 n2 mQ hr=>(Int.add_zero (r:Int)▸hq bz r f2 mQ hr:K (.int (r:Int)) bz))))) λH1 xi ix f1 Gw gY lx w8 hl=>?_
 have S1:=S.mono ok f1
 refine (GV (D:=c.x.1) λi hi=>⟨(w8 i hi).1,by have:=(w8 i hi).2;rw [ok.D.all.xR];exact tS this (JK vl)⟩).elim λpl gx=>?_
 refine AY (loc:=loc.upd "indexes" (.ref xi)) ok.D S1.b lx gx hl l.l3 l.l4 rfl λH2 wa ws f2 h1 h2 h3 hw=>?_
 exact Ff m ok (S1.mn ok f2) (gY.mono f2 id) (aax (Nat.add_lt_add_right hB 10) (by decide)) ⟨l.l1,l.l2,l.l3,l.l4⟩ v0 (lx.mn f2) gx hl ⟨h2,h3⟩ hw rfl rfl h
end
noncomputable def Jh:S:= .bA (.not (.call "_law_made_fits" (.cons (.call "merged" (.o (.aC (.loc "shelf") (.tup ["shelf","rows"]) .plain (.o (.loc "documents")) X.yes))) (.o (.loc "every"))))) zV .nil
noncomputable def KZ:SL:= .cons Jh Nc
noncomputable def G6:SL:= .cons (.set "pen" (.call "_law_pen" (.o (.loc "script")))) (.cons (.set "documents" EW) (.cons (.set "kept" Kb) (.cons (.set "every" (.list .nil)) (.cons (.bW (.nm "which") .aE (.o (.prim "len" (.o (.loc "documents")))) Fv) KZ))))
theorem oN {docs:List Doc}:∀{i:Nat},(∀D∈docs,(ar D.sp).length<=7)->(bY i docs).length<=7*docs.length:=by
 induction docs with
 | nil=>exact λzz=>abp _
 | cons D r ih=>
  intro i h
  show (gU i D++bY (i+1) r).length<=7*(r.length+1)
  rw [aaD,Nat.mul_succ,abg]
  exact aaQ (ih (i:=i+1) λx hx=>h x (.tail _ hx)) ((aaB (as:=ar D.sp) _).symm▸h D (.head _))
section
variable {G:Nat->aj} {H H':HP} {Q:KV} {k p B da ka:Nat} {loc:Loc} {dv:List AV} {xs:List (Doc × List (Int × Di))}
structure mf (p da ka:Nat) (dv:List AV) (xs:List (Doc × List (Int × Di))) (H:HP):Prop where
 ld:IsL H da dv
 hx:L2 (oT p H) dv xs
 lk:IsL H ka (xs.map nH)
 cW:aO H p 2000
structure Jq (p da ka:Nat) (xs:List (Doc × List (Int × Di))):Prop where
 l1:1<=xs.length
 l2:xs.length<=2
 nd:da≠p
 nk:ka≠p
theorem mf.mn (S:mf p da ka dv xs H) (f:ai aJ H H'):mf p da ka dv xs H':=⟨S.ld.mn f,S.hx.imp λzz zz r=>r.mono f.no,S.lk.mn f,S.cW.mono f id⟩
theorem mf.all (S:mf p da ka dv xs H):∀D∈xs.map (·.1),∃rows,d9 D rows/\rows.length<=7:=λD hD=>(aaG.mp hD).elim λx z=>(S.hx.HF z.1).elim λv y=>bF y.2 λzz zz zz zz r=>z.2▸⟨x.2,r.2.1.all,r.2.1.l7⟩
theorem DF (m:aQ G) (F:Jq p da ka xs) (S:mf p da ka dv xs H) (v:L4 p da ka loc) (h:∀H',Q (.bool true) H'):Nc (G (k+11)) loc H (tH (G (k+11)) (G (k+9)) Q):=by
 have We:xs[0]? =some (xs[0]'F.l1):=aaR F.l1
 generalize xs[0]'F.l1=x at We
 refine (S.hx.get We).elim λu z=>bF z.2 λs t AK vs r=>ak v.l1 (ad S.ld.2 (dF (v:=u) z.1 (r.1▸ ?_)))
 exact Cb m (c:=⟨p,da,ka,s,t,AK,dv,vs,xs,x⟩) ⟨F.l2,r.2.1,F.nd,F.nk⟩ ⟨S.ld,S.hx,S.lk,r.2.2⟩ S.cW (by decide) ⟨v.l1,v.l2,rfl,rfl⟩ v.l0 h
theorem yX (m:aQ G) (F:Jq p da ka xs) (S:mf p da ka dv xs H) (I:Tk p da ka H' (xs.map (·.1)) xs.length loc H) (h:∀H',Q (.bool true) H'):KZ (G (k+11)) loc H (tH (G (k+11)) (G (k+9)) Q):=by
 have all:=S.all
 have Cm:(xs.map (·.1)).length<=2:=aaB (as:=xs) (·.1)▸F.l2
 have Pi:(qI (xs.map (·.1))).length<=14:=aaw (oN λD hD=>(all D hD).elim λrows a=>a.1.xR▸a.2) (abt 7 Cm)
 refine ak I.v.l1 (sS S.ld S.hx F.l2 λH1 sl ss f1 h1 h2 h3 YL=>?_)
 refine C2 (k:=k+1) m (λD hD=>(all D hD).elim λrows a=>a.1.ok) h2 h3 YL (aaw (aaQ Pi (abt 4 Cm)) (by decide)) (λD hD=>(all D hD).elim λrows a=>a.1.SH) λH2 ms mt aa E f2 h4 rs ok=>?_
 refine aq I.ex λea wv w=>ak w.2.1 ?_
 have fL:=f1.tr f2
 have hw:=w.2.2
 rw [show (xs.map (·.1)).take xs.length=xs.map (·.1) from List.take_of_length_le (aaS (aaB _))] at hw
 refine lS (k:=k+2) m (λD hD=>(all D hD).imp λrows a=>a.1) Cm (λy hy=>aq (j4 hy) λj D z=>(all D (aaO z.2.1)).elim λrows a=>⟨D,by rw [z.1,abE];exact z.2.1,a.1.Rt y.2 z.2.2⟩) (aaw Pi (by decide)) rs ok (w.1.mn fL) (hw.imp λzz zz r=>dN.mn fL r) λH3 f3=>?_
 exact DF m F (S.mn (fL.tr f3)) I.v h
theorem PY (m:aQ G) {a:Nat} {is:List Int} (e:H.g a= .no (is.map AV.int)) (h:∀H',Q (.bool true) H'):G6 (G (k+11)) (Loc.new.upd "script" (.ref a)) H (tH (G (k+11)) (G (k+9)) Q):=by
 refine NG m e λH1 p f1 hp gY=>?_
 show EW (G (k+11)) ((Loc.new.upd "script" (.ref a)).upd "pen" (.ref p)) H1 _
 refine AP (k:=k+3) m gY (by decide) rfl λH2 da dv xs f2 um mQ ld hx XT Cm=>?_
 refine qL (k:=k+4) m ld hx Cm λH3 ka f3 h1 h2 h3=>cN λH4 f4 n4 e4=>?_
 have Co:=f3.tr f4
 have S2:mf p da ka dv xs H4:=⟨ld.mn Co,hx.imp λzz zz r=>r.mono Co.no,⟨f4.lt h2,f4.keep h2 h3⟩,mQ.mono Co id⟩
 show S.bW (.nm "which") .aE (.o (.prim "len" (.o (.loc "documents")))) Fv (G (k+11)) (((((Loc.new.upd "script" (.ref a)).upd "pen" (.ref p)).upd "documents" (.ref da)).upd "kept" (.ref ka)).upd "every" (.ref H3.n)) H4 (OZ (KZ (G (k+11))) (tH (G (k+11)) (G (k+9)) Q))
 exact yd S2.ld S2.hx Cm (aaw (oN λD hD=>(S2.all D hD).elim λrows a=>a.1.xR▸a.2) (abt 7 (aaB (as:=xs) (·.1)▸Cm))) ⟨n4▸aaC _,e4⟩ ⟨rfl,rfl,rfl⟩ rfl λloc' H5 I=>yX m (⟨XT,Cm,aaN (aax gY.1 um),aaN (aax mQ.1 h1)⟩) (S2.mn I.aD) I h
end
end
section
open PySem PySem.W PySem.Spec PySem.Calls PyProof.Rows
structure WM where
 ρ:Nat->Nat
 δ:Nat->Nat
structure Pt where
 W:WM
 H:HP
 s:Shared
structure Mo where
 prog:Program
 w:World
 K:Frag
 h0:Heap
noncomputable abbrev Mo.m (M:Mo):=model M.prog M.w
noncomputable abbrev Pt.h (p:Pt):Heap:=p.s.heap
noncomputable abbrev Pt.n (p:Pt):Nat:=p.H.n
noncomputable abbrev m5 (vs:Array Value) (k:Nat):Obj:=⟨.type "list",none,.seq vs k,#[]⟩
noncomputable abbrev VY (ds:Array DictEntry) (k:Nat):Obj:=⟨.type "dict",none,.dict ds k,#[]⟩
noncomputable abbrev ZW (C dx:Addr):Obj:=⟨.ref C,some dx,.plain,#[]⟩
noncomputable def gX (o:Obj):Prop:=o.cls= .type "tuple"/\∃vs k,o.data= .seq vs k
noncomputable def dG (h h':Heap):Prop:=∀x o,h.get? x=some o->gX o->h'.get? x=some o
noncomputable def Own (p:Pt) (x:Addr):Prop:=∃a,a < p.n/\(x=p.W.ρ a\/x=p.W.δ a)
mutual
noncomputable def vr (p:Pt):AV->Value->Prop
 | .unset,_=>False
 | .none,v=>v= .none
 | .bool b,v=>v= .bool b
 | .int i,v=>∃t,v= .int i t
 | .str s,v=>∃t,v= .str (Str.ofString s) t
 | .bytes b,v=>∃t,v= .bytes b.toArray t
 | .tup xs,v=>∃x vs,v= .ref x/\IsTup p.h x vs/\L3 p xs vs.toList
 | .ref a,v=>v= .ref (p.W.ρ a)/\a < p.n
noncomputable def L3 (p:Pt):List AV->List Value->Prop
 | [],l=>l=[]
 | a::as,l=>∃v r,l=v::r/\vr p a v/\L3 p as r
end
noncomputable abbrev VR (p:Pt) (v:Value) (a:AV):Prop:=vr p a v
structure fQ (p p':Pt):Prop where
 le:p.n<=p'.n
 ρ:∀a,a < p.n->p'.W.ρ a=p.W.ρ a
 tup:dG p.h p'.h
section
variable {p p' S6:Pt}
theorem sj {x:Addr} {vs:Array Value} (k:dG p.h p'.h) (h:IsTup p.h x vs):IsTup p'.h x vs:=h.imp λo h=>⟨k x o h.1 ⟨h.2.1,vs,h.2.2⟩,h.2⟩
mutual
theorem zL (l:fQ p p'):∀(a:AV) (v:Value),vr p a v->vr p' a v
 | .unset,_,h | .none,_,h | .bool _,_,h | .int _,_,h | .str _,_,h | .bytes _,_,h=>h
 | .tup xs,_,h=>h.imp λx h=>h.imp λvs h=>⟨h.1,sj l.tup h.2.1,vG l xs _ h.2.2⟩
 | .ref a,_,h=>⟨h.1.trans (congrArg Value.ref (l.ρ a h.2).symm),aax h.2 l.le⟩
theorem vG (l:fQ p p'):∀(as:List AV) (vs:List Value),L3 p as vs->L3 p' as vs
 | [],_,h=>h
 | a::as,_,h=>h.imp λv h=>h.imp λr h=>⟨h.1,zL l a v h.2.1,vG l as r h.2.2⟩
end
theorem VR.mono (l:fQ p p') {v:Value} {a:AV} (h:VR p v a):VR p' v a:=zL l a v h
theorem fD:∀{as:List AV} {vs:List Value},L3 p as vs ↔ L2 (VR p) vs as:=by
 intro as
 induction as with
 | nil=>exact λ{vs}=>⟨λh=>h▸ .nil,λh=>h.df⟩
 | cons a as ih=>exact λ{vs}=>⟨λh=>h.elim λv h=>h.elim λr h=>h.1▸ .cons h.2.1 (ih.mp h.2.2),λh=>h.aX.imp λv h=>h.imp λr h=>⟨h.1,h.2.1,ih.mpr h.2.2⟩⟩
theorem wU.mono (l:fQ p p') {vs:List Value} {as:List AV} (h:L2 (VR p) vs as):L2 (VR p') vs as:=h.imp λzz zz r=>r.mono l
theorem VR.tup {v:Value} {xs:List AV} (h:VR p v (.tup xs)):∃x vs,v= .ref x/\IsTup p.h x vs/\L2 (VR p) vs.toList xs:=h.imp λzz h=>h.imp λzz h=>⟨h.1,h.2.1,fD.mp h.2.2⟩
theorem VR.rO {x:Addr} {vs:Array Value} {xs:List AV} (h1:IsTup p.h x vs) (h2:L2 (VR p) vs.toList xs):VR p (.ref x) (.tup xs):=(bH x vs ⟨rfl,h1,fD.mpr h2⟩)
end
noncomputable def J8:AV->Int
 | .int i=>i
 | _=>0
noncomputable def vQ (P:Params):AV->Int
 | .str s=>PyData.keyHash P (Str.ofString s)
 | .int i=>hashInt i
 | .tup xs=>reduceHash (Builtin.Tuple.tupleHashOf (xs.map λx=>hashInt (J8 x)))
 | _=>0
structure mP (M:Mo) (p:Pt) (d:DictEntry) (e:AV × AV):Prop where
 key:VR p d.key e.1
 kk:kk e.1≠0
 hash:d.hash=vQ M.w.params e.1
 val:VR p d.val e.2
structure vS (p:Pt) (d:DictEntry) (e:String × AV):Prop where
 key:∃t,d.key= .str (Str.ofString e.1) t
 val:VR p d.val e.2
noncomputable def EN:Option (Option Value)->Option Addr
 | some v=>(match v with
  | some v=>(match v with
   | .ref f=>some f
   | _=>.none)
  | .none=>.none)
 | .none=>.none
noncomputable def b7 (K:Frag) (x:String):Option Addr:=EN (nsIn K mainGlobals (Str.ofString x))
noncomputable def insts:List String:=["Name","Stream","Reference","Shelf","Page","Spot","Collector"]
noncomputable def ca (K:Frag) (c:String):Option Addr:=if insts.contains c then b7 K c else none
structure F1 (p:Pt) (x:Addr) (vs:Array Value) (k:Nat) (xs:List AV):Prop where
 at_:p.h.get? x=some (m5 vs k)
 l:L2 (VR p) vs.toList xs
 len:xs.length<=lim
structure j5 (M:Mo) (p:Pt) (x:Addr) (ds:Array DictEntry) (k:Nat) (es:List (AV × AV)):Prop where
 at_:p.h.get? x=some (VY ds k)
 l:L2 (mP M p) ds.toList es
 nd:(es.map (·.1)).Nodup
 len:es.length<=lim
structure O9 (M:Mo) (p:Pt) (x dx:Addr) (c:String) (fs:List (String × AV)) (C:Addr) (ds:List DictEntry) (k:Nat):Prop where
 ca:ca M.K c=some C
 at_:p.h.get? x=some (ZW C dx)
 dat:p.h.get? dx=some (dictOf ds k)
 l:L2 (vS p) ds fs
 nd:(fs.map (·.1)).Nodup
 len:fs.length<=100
noncomputable def Cr (M:Mo) (p:Pt) (x dx:Addr):AO->Prop
 | .no xs=>dx=x/\∃vs k,(∃d sl,p.h.get? x=some ⟨.type "list",d,.seq vs k,sl⟩)/\L2 (VR p) vs.toList xs/\xs.length<=lim
 | .list xs=>dx=x/\∃vs k,F1 p x vs k xs
 | .dict es=>dx=x/\∃ds k,j5 M p x ds k es
 | .inst c fs=>∃C ds k,O9 M p x dx c fs C ds k
noncomputable def AO.qt:AO->Bool
 | .no _=>true
 | _=>false
structure Rep (M:Mo) (p:Pt):Prop where
 sz:M.h0.objs.size<=p.h.objs.size
 base:∀x o,M.h0.get? x=some o->p.h.get? x=some o
 lo:∀a,a < p.n->(p.H.g a).qt=false->M.h0.objs.size<=p.W.ρ a/\M.h0.objs.size<=p.W.δ a
 inj:∀a b,a < p.n->b < p.n->a≠b->p.W.ρ a≠p.W.ρ b/\p.W.ρ a≠p.W.δ b/\p.W.δ a≠p.W.δ b
 obj:∀a,a < p.n->Cr M p (p.W.ρ a) (p.W.δ a) (p.H.g a)
structure After (M:Mo) (B:Addr->Prop) (p p':Pt):Prop where
 le:p.n<=p'.n
 ρ:∀a,a < p.n->p'.W.ρ a=p.W.ρ a
 δ:∀a,a < p.n->p'.W.δ a=p.W.δ a
 new:∀a,p.n<=a->a < p'.n->p.h.objs.size<=p'.W.ρ a/\p.h.objs.size<=p'.W.δ a
 keep:∀x o,p.h.get? x=some o->¬Own p x->¬B x->p'.h.get? x=some o
 size:p.h.objs.size<=p'.h.objs.size
 same:p'.s={p.s with heap:=p'.h,toks:=p'.s.toks}
 tup:dG p.h p'.h
 mv:∀a,a < p.n->p.H.t a<=p'.H.t a/\(p'.H.t a=p.H.t a->∀o,p.h.get? (p.W.ρ a)=some o->p'.h.get? (p.W.ρ a)=some o)
 rep:Rep M p'
noncomputable def c6:Addr->Prop:=λzz=>False
structure lA (M:Mo) (p:Pt) (x:Addr):Prop where
 own:¬Own p x
 hi:M.h0.objs.size<=x
 tup:∀o,p.h.get? x=some o->¬gX o
noncomputable def dJ (h h':Heap):Prop:=(∀x o,h.get? x=some o->h'.get? x=some o)/\h.objs.size<=h'.objs.size
noncomputable abbrev Pt.at (p:Pt) (h:Heap) (t:Nat):Pt:=⟨p.W,p.H,{p.s with heap:=h,toks:=t}⟩
noncomputable def WM.put (W:WM) (n x dx:Nat):WM:=⟨λa=>bif Nat.beq a n then x else W.ρ a,λa=>bif Nat.beq a n then dx else W.δ a⟩
noncomputable abbrev Pt.tell (p:Pt) (x dx:Addr) (o:AO):Pt:=⟨p.W.put p.n x dx,p.H.push o,p.s⟩
section
variable {M:Mo} {B B':Addr->Prop} {p p' S6:Pt} {x dx:Addr} {a:Nat} {o:AO}
theorem fQ.grow {h:Heap} {t:Nat} (k:dG p.h h):fQ p (p.at h t):=⟨aaF _,λzz zz=>rfl,k⟩
theorem dJ.tup {h h':Heap} (g:dJ h h'):dG h h':=λx o e zz=>g.1 x o e
theorem dJ.push (h:Heap) (o:Obj):dJ h (h.push o):=⟨λzz zz e=>Heap.get?_push_of_some _ e,by rw [Heap.size_push];exact aba _⟩
theorem dJ.trans {h h' Og:Heap} (a:dJ h h') (b:dJ h' Og):dJ h Og:=⟨λx o e=>b.1 x o (a.1 x o e),aaw a.2 b.2⟩
theorem mP.mono (l:fQ p p') {d:DictEntry} {e:AV × AV} (r:mP M p d e):mP M p' d e:=⟨r.key.mono l,r.kk,r.hash,r.val.mono l⟩
theorem vS.mono (l:fQ p p') {d:DictEntry} {e:String × AV} (r:vS p d e):vS p' d e:=⟨r.key,r.val.mono l⟩
theorem F1.mono (l:fQ p p') {vs:Array Value} {k:Nat} {xs:List AV} (r:F1 p x vs k xs) (kx:∀o,p.h.get? x=some o->p'.h.get? x=some o):F1 p' x vs k xs:=⟨kx _ r.at_,wU.mono l r.l,r.len⟩
theorem j5.mono (l:fQ p p') {ds:Array DictEntry} {k:Nat} {es:List (AV × AV)} (r:j5 M p x ds k es) (kx:∀o,p.h.get? x=some o->p'.h.get? x=some o):j5 M p' x ds k es:=⟨kx _ r.at_,r.l.imp λzz zz q=>q.mono l,r.nd,r.len⟩
theorem Cr.mono (l:fQ p p') (kx:∀o,p.h.get? x=some o->p'.h.get? x=some o) (kd:∀o,p.h.get? dx=some o->p'.h.get? dx=some o):∀{o:AO},Cr M p x dx o->Cr M p' x dx o
 | .no _,r=>⟨r.1,r.2.imp λvs r=>r.imp λk r=>⟨r.1.imp λzz r=>r.imp λzz r=>kx _ r,wU.mono l r.2.1,r.2.2⟩⟩
 | .list _,r=>⟨r.1,r.2.imp λvs r=>r.imp λk r=>r.mono l kx⟩
 | .dict _,r=>⟨r.1,r.2.imp λvs r=>r.imp λk r=>r.mono l kx⟩
 | .inst _ _,r=>r.imp λC r=>r.imp λds r=>r.imp λk r=>⟨r.ca,kx _ r.at_,kd _ r.dat,r.l.imp λzz zz q=>q.mono l,r.nd,r.len⟩
theorem ou {o:Obj} {h:Heap} {x:Addr} (e:h.get? x=some o) (n:o.cls≠ .type "tuple"):∀o,h.get? x=some o->¬gX o:=λo' e' q=>n (aay (e.symm.trans e')▸q.1)
structure jq (p:Pt) (x:Addr):Prop where
 lt:x < p.h.objs.size
 nt:∀o,p.h.get? x=some o->¬gX o
theorem jq.mk' {o:Obj} (e:p.h.get? x=some o) (n:o.cls≠ .type "tuple"):jq p x:=⟨Heap.lt_size e,ou e n⟩
theorem Cr.there:∀{o:AO},Cr M p x dx o->jq p x/\jq p dx
 | .no _,r=>aq r.2 λvs k z=>aq z.1 λd sl z=>r.1.symm▸⟨.mk' z (by decide:Value.type "list"≠ .type "tuple"),.mk' z (by decide:Value.type "list"≠ .type "tuple")⟩
 | .list _,r=>r.2.elim λvs z=>z.elim λk z=>r.1.symm▸⟨.mk' z.at_ (by decide:Value.type "list"≠ .type "tuple"),.mk' z.at_ (by decide:Value.type "list"≠ .type "tuple")⟩
 | .dict _,r=>r.2.elim λvs z=>z.elim λk z=>r.1.symm▸⟨.mk' z.at_ (by decide:Value.type "dict"≠ .type "tuple"),.mk' z.at_ (by decide:Value.type "dict"≠ .type "tuple")⟩
 | .inst _ _,r=>bj r λC ds k z=>⟨.mk' z.at_ (λq=>nomatch q),.mk' z.dat (by show Value.type "dict"≠ .type "tuple";decide)⟩
theorem Rep.there (R:Rep M p) (ha:a < p.n):jq p (p.W.ρ a)/\jq p (p.W.δ a):=(R.obj a ha).there
theorem Rep.own (R:Rep M p) (h:Own p x):jq p x:=h.elim λa h=>h.2.elim (λe=>e▸(R.there h.1).1) λe=>e▸(R.there h.1).2
theorem Rep.new (R:Rep M p) (hx:p.h.objs.size<=x):¬Own p x:=λh=>aaP.mpr hx (R.own h).lt
theorem Rep.Ig (R:Rep M p) {y:Addr} (hx:p.h.objs.size<=y):lA M p y:=⟨R.new hx,aaw R.sz hx,λo e=>absurd (Heap.lt_size e) (aaP.mpr hx)⟩
theorem Rep.Ht (R:Rep M p) (ha:a < p.n) (hn:(p.H.g a).qt=false) (hy:x=p.W.ρ a\/x=p.W.δ a):M.h0.objs.size<=x:=hy.elim (λe=>e▸(R.lo a ha hn).1) λe=>e▸(R.lo a ha hn).2
theorem After.lift (a:After M B p p'):fQ p p':=⟨a.le,a.ρ,a.tup⟩
theorem After.rel (a:After M B p p') {v:Value} {x:AV} (r:VR p v x):VR p' v x:=r.mono a.lift
theorem After.o4 (a:After M B p p') {v:List Value} {x:List AV} (r:L2 (VR p) v x):L2 (VR p') v x:=wU.mono a.lift r
theorem After.own (a:After M B p p') (hx:x < p.h.objs.size) (h:¬Own p x):¬Own p' x:=λt0=>aw t0 λb hb e=>by
 by_cases q:b < p.n
 .rw [a.ρ b q,a.δ b q] at e
  exact h ⟨b,q,e⟩
 .have n:=a.new b (aaP.mp q) hb
  exact e.elim (λe=>aaP.mpr n.1 (e▸hx)) λe=>aaP.mpr n.2 (e▸hx)
theorem After.trans (a:After M B p p') (b:After M B p' S6):After M B p S6 where
 le:=aaw a.le b.le
 ρ c hc:=(b.ρ c (aax hc a.le)).trans (a.ρ c hc)
 δ c hc:=(b.δ c (aax hc a.le)).trans (a.δ c hc)
 new c h1 h2:=by
  by_cases q:c < p'.n
  .rw [b.ρ c q,b.δ c q];exact a.new c h1 q
  .have n:=b.new c (aaP.mp q) h2
   exact ⟨aaw a.size n.1,aaw a.size n.2⟩
 keep x o e h1 h2:=b.keep x o (a.keep x o e h1 h2) (a.own (Heap.lt_size e) h1) h2
 size:=aaw a.size b.size
 same:=by rw [b.same,a.same]
 tup x o e h:=b.tup x o (a.tup x o e h) h
 mv c hc:=by
  have t1:=a.mv c hc
  have t2:=b.mv c (aax hc a.le)
  replace t2:=(a.ρ c hc)▸t2
  refine ⟨aaw t1.1 t2.1,λe o ho=>?_⟩
  have e1:p'.H.t c=p.H.t c:=Nat.le_antisymm (e▸t2.1) t1.1
  exact t2.2 (e.trans e1.symm) o (t1.2 e1 o ho)
 rep:=b.rep
theorem After.weaken (a:After M B p p') (h:∀x,B x->B' x):After M B' p p':=⟨a.le,a.ρ,a.δ,a.new,λx o e h1 h2=>a.keep x o e h1 λq=>h2 (h x q),a.size,a.same,a.tup,a.mv,a.rep⟩
theorem After.no (a:After M c6 p p'):After M B p p':=a.weaken λzz q=>q.elim
theorem After.drop (a:After M B p p') (h:∀x,B x->B' x\/p.h.objs.size<=x):After M B' p p':=⟨a.le,a.ρ,a.δ,a.new,λx o e h1 h2=>a.keep x o e h1 λq=>(h x q).elim h2 λz=>aaP.mpr z (Heap.lt_size e),a.size,a.same,a.tup,a.mv,a.rep⟩
theorem After.gen (R:Rep M p) {h':Heap} {t:Nat} (hz:p.h.objs.size<=h'.objs.size) (hB:∀x,B x->lA M p x) (hk:∀x o,p.h.get? x=some o->¬B x->h'.get? x=some o):After M B p (p.at h' t):=
 have tk:dG p.h h':=λx o e q=>hk x o e λb=>(hB x b).tup o e q
 have ko:∀x,Own p x->∀o,p.h.get? x=some o->h'.get? x=some o:=λx w o e=>hk x o e λb=>(hB x b).own w
 ⟨aaF _,λzz zz=>rfl,λzz zz=>rfl,λzz h1 h2=>absurd h2 (aaP.mpr h1),λx o e zz n=>hk x o e n,hz,rfl,tk,λc hc=>⟨aaF _,λzz=>ko _ ⟨c,hc,.inl rfl⟩⟩,
  aaw R.sz hz,λx o e=>hk x o (R.base x o e) λb=>aaP.mpr (hB x b).hi (Heap.lt_size e),R.lo,R.inj,λc hc=>(R.obj c hc).mono (.grow tk) (ko _ ⟨c,hc,.inl rfl⟩) (ko _ ⟨c,hc,.inr rfl⟩)⟩
theorem After.grow (R:Rep M p) {h':Heap} {t:Nat} (g:dJ p.h h'):After M B p (p.at h' t):=(After.gen (B:=c6) R g.2 (λzz q=>q.elim) λx o e zz=>g.1 x o e).no
theorem After.refl (R:Rep M p):After M B p p:=After.grow R ⟨λzz zz e=>e,aaF _⟩
theorem After.toks (R:Rep M p) (t:Nat):After M B p (p.at p.h t):=After.grow R ⟨λzz zz e=>e,aaF _⟩
theorem After.set (R:Rep M p) (ha:a < p.n) (hn:(p.H.g a).qt=false) {y:Addr} (hy:y=p.W.ρ a\/y=p.W.δ a) {h':Heap} {t:Nat} (hz:p.h.objs.size<=h'.objs.size) (hB:∀x,B x->lA M p x) (hk:∀x o,p.h.get? x=some o->x≠y->¬B x->h'.get? x=some o)
  (no:o.qt=false) (ok:∀q:Pt,q=⟨p.W,p.H.set a o,{p.s with heap:=h',toks:=t}⟩->fQ p q->Cr M q (p.W.ρ a) (p.W.δ a) o):After M B p ⟨p.W,p.H.set a o,{p.s with heap:=h',toks:=t}⟩:=by
 have own:Own p y:=⟨a,ha,hy⟩
 have tk:dG p.h h':=λx ob e q=>hk x ob e (λz=>(R.own (z▸own:Own p x)).nt ob e q) λb=>(hB x b).tup ob e q
 have l:fQ p ⟨p.W,p.H.set a o,{p.s with heap:=h',toks:=t}⟩:=⟨aaF _,λzz zz=>rfl,tk⟩
 have ne:∀b,b < p.n->b≠a->p.W.ρ b≠y/\p.W.δ b≠y:=λb hb q=>
  have n:=R.inj b a hb ha q
  hy.elim (λe=>e▸⟨n.1,λz=>(R.inj a b ha hb (abm q)).2.1 z.symm⟩) λe=>e▸⟨n.2.1,n.2.2⟩
 have pr:∀{b},b < p.n->¬B (p.W.ρ b)/\¬B (p.W.δ b):=λhb=>⟨λz=>(hB _ z).own ⟨_,hb,.inl rfl⟩,λz=>(hB _ z).own ⟨_,hb,.inr rfl⟩⟩
 refine ⟨aaF _,λzz zz=>rfl,λzz zz=>rfl,λzz h1 h2=>absurd h2 (aaP.mpr h1),λx ob e h1 h2=>hk x ob e (λz=>h1 (z▸own)) h2,hz,rfl,tk,λb hb=>?_,
  ⟨aaw R.sz hz,λx ob e=>hk x ob (R.base x ob e) (λz=>aaP.mpr (R.Ht ha hn hy) (z▸Heap.lt_size e)) λz=>aaP.mpr (hB x z).hi (Heap.lt_size e),λb hb q=>?_,R.inj,λb hb=>?_⟩⟩
 .by_cases q:b=a
  .have e:(p.H.set a o).t b=p.H.t b+1:=by show (bif _ then _ else _)=_;rw [q,iz];rfl
   exact ⟨e▸aba _,λz=>absurd (e.symm.trans z) (Nat.succ_ne_self _)⟩
  .exact ⟨aaS (D7 q).symm,λzz ob e=>hk _ ob e (ne b hb q).1 (pr hb).1⟩
 .by_cases z:b=a
  .exact z▸R.lo a ha hn
  .exact R.lo b hb ((ey z (H:=p.H) (o:=o))▸q)
 .by_cases q:b=a
  .have:=ok _ rfl l
   rw [q]
   show Cr M _ _ _ ((p.H.set a o).g a)
   rw [bp];exact this
  .show Cr M _ _ _ ((p.H.set a o).g b)
   rw [ey q]
   exact (R.obj b hb).mono l (λob e=>hk _ ob e (ne b hb q).1 (pr hb).1) λob e=>hk _ ob e (ne b hb q).2 (pr hb).2
theorem oQ {W:WM} {n:Nat}:(W.put n x dx).ρ n=x:=by show (bif _ then _ else _)=_;rw [iz];rfl
theorem r7 {W:WM} {n:Nat}:(W.put n x dx).δ n=dx:=by show (bif _ then _ else _)=_;rw [iz];rfl
theorem fK {W:WM} {n:Nat} (h:a < n):(W.put n x dx).ρ a=W.ρ a:=by show (bif _ then _ else _)=_;rw [pU (aaJ h)];rfl
theorem gM {W:WM} {n:Nat} (h:a < n):(W.put n x dx).δ a=W.δ a:=by show (bif _ then _ else _)=_;rw [pU (aaJ h)];rfl
theorem fQ.tell:fQ p (p.tell x dx o):=⟨aba _,λzz h=>fK h,λzz zz e zz=>e⟩
theorem After.tell (a:After M B p p') (hx:p.h.objs.size<=x) (hd:p.h.objs.size<=dx) (nx:¬Own p' x) (nd:¬Own p' dx) (h0:M.h0.objs.size<=p.h.objs.size) (ok:Cr M (p'.tell x dx o) x dx o):After M B p (p'.tell x dx o)/\VR (p'.tell x dx o) (.ref x) (.ref p'.n):=by
 have R:=a.rep
 have old:∀{c},c < p'.n+1->c≠p'.n->c < p'.n:=λh n=>Nat.lt_of_le_of_ne (Nat.le_of_lt_succ h) n
 refine ⟨⟨abx a.le,λc hc=>(fK (aax hc a.le)).trans (a.ρ c hc),λc hc=>(gM (aax hc a.le)).trans (a.δ c hc),λc h1 h2=>?_,a.keep,a.size,a.same,a.tup,λc hc=>a.mv c hc,⟨R.sz,R.base,λc hc q=>?_,λc d hc Gi n=>?_,λc hc=>?_⟩⟩,?_,aaC _⟩
 .by_cases q:c=p'.n
  .rw [q];show _<=(p'.W.put p'.n x dx).ρ _/\_<=(p'.W.put p'.n x dx).δ _;rw [oQ,r7];exact ⟨hx,hd⟩
  .show _<=(p'.W.put p'.n x dx).ρ _/\_<=(p'.W.put p'.n x dx).δ _;rw [fK (old h2 q),gM (old h2 q)];exact a.new c h1 (old h2 q)
 .by_cases z:c=p'.n
  .rw [z];show _<=(p'.W.put p'.n x dx).ρ _/\_<=(p'.W.put p'.n x dx).δ _;rw [oQ,r7];exact ⟨aaw h0 hx,aaw h0 hd⟩
  .show _<=(p'.W.put p'.n x dx).ρ _/\_<=(p'.W.put p'.n x dx).δ _;rw [fK (old hc z),gM (old hc z)];exact R.lo c (old hc z) ((nA (old hc z) (o:=o))▸q)
 .show (p'.W.put p'.n x dx).ρ _≠(p'.W.put p'.n x dx).ρ _/\(p'.W.put p'.n x dx).ρ _≠(p'.W.put p'.n x dx).δ _/\(p'.W.put p'.n x dx).δ _≠(p'.W.put p'.n x dx).δ _
  by_cases q:c=p'.n
  .have hd2:=old Gi λz=>n (q.trans z.symm)
   rw [q,oQ,r7,fK hd2,gM hd2]
   exact ⟨λe=>nx ⟨d,hd2,.inl e⟩,λe=>nx ⟨d,hd2,.inr e⟩,λe=>nd ⟨d,hd2,.inr e⟩⟩
  .have Gr:=old hc q
   by_cases q':d=p'.n
   .rw [q',oQ,r7,fK Gr,gM Gr]
    exact ⟨λe=>nx ⟨c,Gr,.inl e.symm⟩,λe=>nd ⟨c,Gr,.inl e.symm⟩,λe=>nd ⟨c,Gr,.inr e.symm⟩⟩
   .rw [fK Gr,gM Gr,fK (old Gi q'),gM (old Gi q')]
    exact R.inj c d Gr (old Gi q') n
 .show Cr M _ ((p'.W.put p'.n x dx).ρ c) ((p'.W.put p'.n x dx).δ c) ((p'.H.push o).g c)
  by_cases q:c=p'.n
  .rw [q,oQ,r7]
   rw [dq];exact ok
  .rw [fK (old hc q),gM (old hc q),nA (old hc q)]
   exact (R.obj c (old hc q)).mono .tell (λzz e=>e) λzz e=>e
 .show Value.ref x= .ref ((p'.W.put p'.n x dx).ρ p'.n)
  rw [oQ]
end
noncomputable def toS (y:Str):String:=String.ofList (y.cps.toList.map Char.ofNat)
noncomputable def OC (y:Str):Option String:=bif y.cps.toList.all (Nat.blt · 128) then some (toS y) else none
noncomputable def fx (y:Str):Bool:=match y.cps.toList with
 | a::r=>(match r with
  | b::_=>!(Nat.beq a 46||(Nat.beq a 95&&Nat.beq b 95))
  | []=>true)
 | []=>true
noncomputable def Qc:Option NameKind->Bool
 | some k=>(match k with
  | .local | .cell | .free=>true
  | _=>false)
 | .none=>false
noncomputable def AE:Option NameKind->Bool
 | some k=>(match k with
  | .local | .cell=>true
  | _=>false)
 | .none=>false
noncomputable def sJ (sc:Scope) (y:Str):Option String:=bif fx y&&Qc (sc.names.lookup y) then OC y else none
noncomputable def x6 (sc:Scope) (y:Str):Option String:=bif fx y&&AE (sc.names.lookup y) then OC y else none
noncomputable def aU (sc:Scope) (y:Str):Bool:=fx y&&sc.names.lookup y==some .globalImplicit
noncomputable def iW (ks:List String) (y:Str):Option String:=ks.find? λs=>y==Str.ofString s
noncomputable def nO:List String:=["kind_of","told_plain","told","told_objects","parts_of","references_in","renumbered","home_of","is_node","kids_of","met","spots","fields_of","page_spots","pages",
 "is_there","plain_trailer","walk","reached","unreached","barred_numbers","bare_page","assembled","merged","split_pages","cut_into",
 "_law_pen","_law_draw","_law_fill","_law_page","_law_node","_law_document","_law_unfolded","_law_page_fits","_law_made_fits","_law_raises"]
noncomputable def py:List String:=["len","abs","min","max","sorted","tuple","list","dict","bytes","repr"]
noncomputable def gH:List String:=["bool","int","list","dict","Decimal","Name","String","Stream","Reference"]
noncomputable def Jm:List String:=["MOST_HOPS","INHERITED","PLACES_OF_FILES"]
noncomputable def Ng:List String:=["append","extend","pop","get","pair","fetch","put","add","numbers","root","told","reserve","take_needed","lay"]
noncomputable def gg:List String:=["text","octets","is_hex","head","number","generation","table","trailer","reference","fields","above","inherited","is_page","shelf","made","barred","top","places"]
noncomputable def k8 {α:Type}:List α->Option α
 | a::r=>(match r with
  | []=>some a
  | _::_=>.none)
 | []=>.none
noncomputable def Ri {α:Type}:List α->Option (α × α)
 | a::r=>(k8 r).map λb=>(a,b)
 | []=>.none
noncomputable def xA {α:Type}:List α->Bool
 | []=>true
 | _::_=>false
noncomputable def bh:Expr->Bool
 | .Starred _ _ | .Slice _ _ _ _ | .Set _ _ _=>false
 | _=>true
noncomputable def ig:Expr->Bool
 | .Set _ _ _=>false
 | _=>true
noncomputable def kX:Expr->Bool
 | .Name _ _=>true
 | _=>false
noncomputable def dE:Expr->Bool
 | .ListComp _ _ _ _ | .SetComp _ _ _ _ | .DictComp _ _ _ _ _=>false
 | _=>true
noncomputable def yH:Expr->Bool
 | .Call _ _ _ _=>true
 | _=>false
noncomputable def iv:Expr->Bool
 | .Tuple _ _ _=>false
 | _=>true
noncomputable def OF:Const->Bool
 | .none=>true
 | _=>false
noncomputable def tX:Expr->Bool
 | .Constant v _ _=>OF v
 | _=>false
noncomputable def TH:Const->Option Int
 | .int i=>some i
 | _=>.none
noncomputable def Pw:Expr->Option Int
 | .Constant v _ _=>TH v
 | _=>.none
noncomputable def Ax:Expr->Option Str
 | .Name y _=>some y
 | _=>.none
noncomputable def U5:Const->Option Str
 | .str i=>some i
 | _=>.none
noncomputable def P9:Expr->Option Str
 | .Constant v _ _=>U5 v
 | _=>.none
noncomputable def jf:Expr->Option (Str × List Expr)
 | .Call f as kw _=>bif xA kw then (Ax f).map λg=>(g,as) else .none
 | _=>.none
noncomputable def cw (e:Expr):Bool:=match jf e with
 | some _=>false
 | .none=>true
noncomputable def pC:List (Option Expr)->Option (List String)
 | []=>some []
 | e::r=>e.bind λe=>(P9 e).bind λy=>(OC y).bind λx=>(pC r).map (x::·)
noncomputable def jr (sc:Scope):List Expr->Option (List String)
 | []=>some []
 | e::r=>(Ax e).bind λy=>(x6 sc y).bind λx=>(jr sc r).map (x::·)
noncomputable def D6 (sc:Scope):Expr->Option Tg
 | .Name y _=>(x6 sc y).map .nm
 | .Tuple es _ _=>(jr sc es).map .tup
 | _=>.none
noncomputable def gF:Tg->List String
 | .nm x=>[x]
 | .tup xs=>xs
noncomputable def Pf:Option NameKind->Bool
 | some k=>(match k with
  | .cell | .free=>true
  | _=>false)
 | .none=>false
noncomputable def As (sc aZ:Scope) (tg:Tg) (p:Str × NameKind):Bool:=aZ.names.lookup p.1==some p.2&&match p.2 with
 | .local=>p.1==(".0":Str)||(gF tg).any λx=>p.1==Str.ofString x
 | .free=>Pf (sc.names.lookup p.1)
 | .globalImplicit=>true
 | _=>false
noncomputable def DL (sc aZ:Scope) (tg:Tg):Bool:=aZ.kind== .function&&aZ.names.all (As sc aZ tg)
noncomputable def LP:Operator->Option xx
 | .Add=>some .add
 | .Sub=>some .sub
 | .Mult=>some .mul
 | .FloorDiv=>some .fdiv
 | .Mod=>some .mod
 | _=>.none
noncomputable def o3:CmpOp->Option lU
 | .Eq=>some .eq
 | .NotEq=>some .ne
 | .Lt=>some .lt
 | .LtE=>some .le
 | .Gt=>some .gt
 | .In=>some .isIn
 | .NotIn=>some .cL
 | _=>.none
noncomputable def vo:List X->XL
 | []=>XL.nil
 | x::r=>XL.cons x (vo r)
noncomputable abbrev CX:=Bool->Scope->Expr->Option X
section
variable (c:CX)
noncomputable def yh (sc:Scope):List Expr->Option (List X)
 | []=>some []
 | e::r=>(c false sc e).bind λx=>(yh sc r).map (x::·)
noncomputable def dU (sc:Scope) (es:List Expr):Option XL:=(yh c sc es).map vo
noncomputable def JB:Const->Option X
 | .none=>some X.none
 | .bool b=>some (X.bool b)
 | .int i=>some (X.int i)
 | .str t=>(OC t).map X.str
 | .bytes b=>some (X.bytes b)
 | _=>.none
noncomputable def pH (sc:Scope) (op:CmpOp) (r:Expr) (a:X):Option X:=match op with
 | .Is=>bif tX r then some (X.isNone a) else .none
 | .IsNot=>bif tX r then some (X.bJ a) else .none
 | _=>(o3 op).bind λo=>(c false sc r).map (X.cmp o a)
noncomputable def EF (sc:Scope) (a:X) (lo hi:Option Expr):Option X:=match lo with
 | .none=>(match hi with
  | some u=>(c false sc u).map (X.yy a)
  | .none=>.none)
 | some u=>(match hi with
  | .none=>(c false sc u).map (X.zH a)
  | some _=>.none)
noncomputable def Af (sc:Scope) (v:Expr) (a:X) (s:Expr):Option X:=match s with
 | .Slice lo hi st _=>bif kX v&&st.isNone then EF c sc a lo hi else .none
 | _=>(c false sc s).map (X.idx a)
noncomputable def oz (sc:Scope) (p:String) (as:List Expr):Option X:=match (k8 as).bind jf with
 | some q=>(match p=="list"&&aU sc "range"&&(q.1==("range":Str)) with
  | true=>(dU c sc q.2).map (X.prim "listrange")
  | false=>(dU c sc as).map (X.prim p))
 | .none=>(dU c sc as).map (X.prim p)
noncomputable def CC (sc:Scope) (g:Str) (as:List Expr):Option X:=match iW nO g with
 | some f=>(dU c sc as).map (X.call f)
 | .none=>(match iW insts g with
  | some f=>(dU c sc as).map (X.new f)
  | .none=>(match iW py g with
   | some p=>oz c sc p as
   | .none=>bif g==("isinstance":Str) then (Ri as).bind λp=>(Ax p.2).bind λd=>(iW gH d).bind λk=>bif aU sc d then (c false sc p.1).map (X.isin · k) else .none else .none))
noncomputable def PZ (sc:Scope) (as:List Expr):Option Expr:=(k8 as).bind λe=>(jf e).bind λq=>bif q.1==("reversed":Str)&&aU sc q.1 then k8 q.2 else .none
noncomputable def J0 (sc:Scope) (a:X) (n:Str) (as:List Expr):Option X:=match PZ sc as with
 | some v=>bif n==("extend":Str) then (c false sc v).map (X.x8 a) else .none
 | .none=>(iW Ng n).bind λm=>(dU c sc as).map (X.ay a m)
noncomputable def vq (sc:Scope) (f:Expr) (as:List Expr) (p:Pos):Option X:=match f with
 | .Name g _=>bif aU sc g then CC c sc g as else .none
 | .Attribute o n ap=>bif cw o&&Nat.beq ap.endLine p.line&&Nat.ble as.length 10 then (c false sc o).bind λa=>J0 c sc a n as else .none
 | _=>.none
noncomputable def Mk (sc:Scope) (it:Expr):Option (IK × XL):=bif ig it then (match jf it with
 | some q=>(match aU sc q.1,q.1==("range":Str),q.1==("reversed":Str) with
  | true,true,_=>(k8 q.2).bind λe=>(c false sc e).map λx=>(.aE,XL.o x)
  | true,false,true=>(k8 q.2).bind λe=>(c false sc e).map λx=>(.rev,XL.o x)
  | true,false,false=>(c false sc it).map λx=>(.plain,XL.o x)
  | false,_,_=>.none)
 | .none=>(c false sc it).map λx=>(.plain,XL.o x)) else .none
noncomputable def QQ (sc:Scope):List Expr->Option (aj->PC)
 | []=>some X.yes
 | e::r=>(match r with
  | []=>(c true sc e).map (X.bN · X.yes)
  | _::_=>.none)
noncomputable def CD (sc aZ:Scope) (e:Expr) (g:Comprehension):Option X:=(D6 aZ g.target).bind λtg=>bif g.is_async==0&&DL sc aZ tg then
 (Mk c sc g.iter).bind λq=>(c false aZ e).bind λx=>(QQ c aZ g.ifs).map λfs=>X.aC x tg q.1 q.2 fs else .none
noncomputable def u7 (sc:Scope) (e:Expr):Option X:=match e with
 | .Constant v _ _=>JB v
 | .Name y _=>(match sJ sc y with
  | some x=>some (X.loc x)
  | .none=>bif aU sc y then (iW Jm y).map X.glob else .none)
 | .UnaryOp op a _=>(match op with
  | .Not=>(c false sc a).map X.not
  | .USub=>(Pw a).map X.neg
  | _=>.none)
 | .Tuple es _ _=>(dU c sc es).map X.tup
 | .List es _=>(dU c sc es).map X.list
 | .Dict ks vs _=>bif Nat.beq ks.length vs.length&&Nat.ble ks.length 15 then (pC ks).bind λks=>(dU c sc vs).map (X.dict ks) else .none
 | .BinOp l op r _=>(LP op).bind λo=>(c false sc l).bind λa=>(c false sc r).map (X.bin o a)
 | .Compare l ops rs _=>(k8 ops).bind λop=>(k8 rs).bind λr=>(c false sc l).bind λa=>pH c sc op r a
 | .BoolOp op es _=>(Ri es).bind λp=>(c false sc p.1).bind λa=>(c false sc p.2).map (match op with
  | .And=>X.and a
  | .Or=>X.or a)
 | .IfExp t a b _=>(c true sc t).bind λx=>(c false sc a).bind λy=>(c false sc b).map (X.ite x y)
 | .Attribute v m _=>bif cw v then (iW gg m).bind λn=>(c false sc v).map (X.fld · n) else .none
 | .Subscript v s _=>(c false sc v).bind λa=>Af c sc v a s
 | .Call f as kw p=>bif xA kw then vq c sc f as p else .none
 | .ListComp e gs aZ _=>(k8 gs).bind λg=>CD c sc aZ e g
 | _=>.none
noncomputable def J4 (sc:Scope) (e:Expr):Option X:=match e with
 | .UnaryOp op a _=>(match op with
  | .Not=>(c true sc a).map X.not
  | _=>.none)
 | .Compare l ops rs _=>(match ops with
  | op::q=>(c false sc l).bind λa=>(match q with
   | []=>(k8 rs).bind λr=>pH c sc op r a
   | o2::q=>bif xA q then (Ri rs).bind λr=>(o3 op).bind λo=>(o3 o2).bind λo2=>(c false sc r.1).bind λx=>(c false sc r.2).map (X.HJ o o2 a x) else .none)
  | []=>.none)
 | .BoolOp op es _=>(match es with
  | e::r=>(c true sc e).bind λa=>(match r with
   | f::r=>(c true sc f).bind λb=>(match r with
    | []=>some (match op with
     | .And=>X.and a b
     | .Or=>X.or a b)
    | g::r=>(match op with
     | .And=>.none
     | .Or=>bif xA r then (c true sc g).map (X.or3 a b) else .none))
   | []=>.none)
  | []=>.none)
 | .IfExp _ _ _ _=>.none
 | _=>u7 c sc e
noncomputable def Pq (t:Bool) (sc:Scope) (e:Expr):Option X:=bif bh e then (match t with
 | true=>J4 c sc e
 | false=>u7 c sc e) else .none
noncomputable def Ek (sc:Scope) (t v:Expr):Option S:=match t with
 | .Name y _=>(x6 sc y).bind λx=>(c false sc v).map (S.set x)
 | .Attribute o m _=>bif dE v&&cw o then (iW gg m).bind λn=>(c false sc o).bind λa=>(c false sc v).map (S.dI a n) else .none
 | .Subscript o i _=>bif dE v then (c false sc o).bind λa=>(c false sc i).bind λb=>(c false sc v).map (S.b8 a b) else .none
 | .Tuple ts _ _=>bif dE v&&iv v then (jr sc ts).bind λxs=>(c false sc v).map (S.bM xs) else .none
 | _=>.none
noncomputable def lV (b:Scope->List Stmt->Option SL) (sc:Scope) (s:Stmt):Option S:=match s with
 | .Assign ts v _=>(k8 ts).bind λt=>Ek c sc t v
 | .Expr v _=>bif yH v then (c false sc v).map S.expr else .none
 | .If t p q _=>(c true sc t).bind λx=>(b sc p).bind λa=>(b sc q).map (S.bA x a)
 | .While t p q _=>bif xA q then (c true sc t).bind λx=>(b sc p).map (S.ij x) else .none
 | .For t it p q _=>bif xA q then (D6 sc t).bind λtg=>(Mk c sc it).bind λz=>(b sc p).map (S.bW tg z.1 z.2) else .none
 | .Return v _=>v.bind λv=>(c false sc v).map S.ret
 | .Continue _=>some S.cont
 | .Break _=>some S.brk
 | .Raise _ _ _=>some (S.raise "" X.none)
 | _=>.none
noncomputable def ON (b:Scope->List Stmt->Option SL) (sc:Scope) (l:List Stmt):Option SL:=match l with
 | []=>some SL.nil
 | s::r=>(lV c b sc s).bind λx=>(b sc r).map (SL.cons x)
end
noncomputable def comp (n:Nat):CX:=Nat.rec (λzz zz zz=>.none) (λzz c=>Pq c) n
noncomputable def dz (n:Nat):Scope->List Stmt->Option SL:=Nat.rec (λzz zz=>.none) (λn b=>ON (comp n) b) n
noncomputable def DR:List (String × (String × String)):=[("Name.__init__",("Name","__init__")),("Stream.__init__",("Stream","__init__")),("Reference.__init__",("Reference","__init__")),("Reference.pair",("Reference","pair")),
 ("Lookup.__init__",("Shelf","__init__")),("Lookup.fetch",("Shelf","fetch")),("Lookup.get",("Shelf","get")),("Shelf.put",("Shelf","put")),("Shelf.add",("Shelf","add")),("Shelf.numbers",("Shelf","numbers")),("Shelf.root",("Shelf","root")),("Shelf.told",("Shelf","told")),
 ("Page.__init__",("Page","__init__")),("Spot.__init__",("Spot","__init__")),("Collector.__init__",("Collector","__init__")),("Collector.reserve",("Collector","reserve")),("Collector.take_needed",("Collector","take_needed")),("Collector.lay",("Collector","lay"))]
noncomputable def fa (K:Frag) (key:String):Option Addr:=match DR.lookup key with
 | some q=>(b7 K q.1).bind λC=>EN (findIn K (.ref C) (Str.ofString q.2))
 | .none=>b7 K key
noncomputable def WK:Data->Option FuncData
 | .func fd=>some fd
 | _=>.none
noncomputable def N9 (K:Frag) (a:Addr):Option FuncData:=(K.lookup a).bind λo=>WK o.data
noncomputable def yA:FuncBody->Option (List Stmt)
 | .stmts b=>some b
 | _=>.none
noncomputable def sQ (K:Frag) (key:String):Option (FuncData × List Stmt):=(fa K key).bind λa=>(N9 K a).bind λfd=>(yA fd.body).map λb=>(fd,b)
noncomputable def DD:Value->Bool
 | .none=>true
 | _=>false
noncomputable def LG:Data->Option (List Value)
 | .seq vs _=>some vs.toList
 | _=>.none
noncomputable def CL (K:Frag) (v:Value):Option (List Value):=match v with
 | .ref t=>(K.lookup t).bind λo=>LG o.data
 | _=>.none
noncomputable def oB (K:Frag) (key:String) (v:Value):Bool:=match key=="Lookup.__init__" with
 | true=>(CL K v).any λl=>l.all DD&&Nat.beq l.length 2
 | false=>DD v
noncomputable def CZ (K:Frag) (key:String) (ps:List String) (fd:FuncData):Bool:=
 fd.globals==mainGlobals&&fd.closure.isEmpty&&fd.builtins==builtinsNs&&fd.scope.kind== .function&& !fd.scope.isGenerator&& !fd.scope.isCoroutine&&codeIn K fd.code fd.qualname&&
 fd.params.posonlyargs.isEmpty&&fd.params.args.map (·.arg)==ps.map Str.ofString&&fd.params.vararg.isNone&&fd.params.kwonlyargs.isEmpty&&fd.params.kwarg.isNone&&
 decide (ps.map Str.ofString).Nodup&&(ps.all λp=>AE (fd.scope.names.lookup (Str.ofString p)))&&fd.scope.names.all (λx=>x.2 != .free)&&oB K key fd.defaults
noncomputable def Pm (K:Frag) (key:String) (ps:List String):Bool:=(sQ K key).any λq=>CZ K key ps q.1
structure Jj (K:Frag) (C:Addr):Prop where
 makes:makesIn K C=true
 get:plainGet K C ("x":Str)=true
 dict:hasDictIn K C=true
 over:plainOver K C=true
 keep:keepIn K (.ref C)=true
 cls:findIn K (.ref C) "__class__"=some (some (.builtin "object.__class__"))
 mro:mroIn K C (.type "object")=some true
 set:findIn K (.ref C) "__setattr__"=some (some (.builtin "object.__setattr__"))
 fld:(gg.all λf=>findIn K (.ref C) (Str.ofString f)==some none&&takerIn K C (Str.ofString f)==some none)=true
noncomputable def LM (K:Frag) (C:Addr) (q m:String):Bool:=(fa K q).any λf=>findIn K (.ref C) (Str.ofString m)==some (some (.ref f))&&(isFn K (.ref f)&&keepIn K (.ref f))
noncomputable def R1:List String:=["bool","int","list","dict"]
noncomputable def sE (K:Frag) (c:String):Option Value:=bif R1.contains c then some (.type c) else (b7 K c).map .ref
noncomputable def Rv (t c:String):Bool:=(t=="bool"&&(c=="bool"||c=="int"))||((t=="int"||t=="list"||t=="dict")&&c==t)
noncomputable def D5:List String:=["NoneType","bool","int","str","bytes","tuple","list","dict"]
noncomputable def DT:List Value->List AV->Bool
 | [],b=>(match b with
  | []=>true
  | _::_=>false)
 | a::r,b=>(match a,b with
  | .str s _,.str t::xs=>s==Str.ofString t&&DT r xs
  | _,_=>false)
noncomputable def yT (K:Frag) (x:String) (v:AV):Bool:=match nsIn K mainGlobals (Str.ofString x) with
 | some (some u)=>(match v with
  | .int i=>(match u with
   | .int j _=>decide (i=j)
   | _=>false)
  | .tup xs=>(match u with
   | .ref a=>(K.lookup a).any λo=>o.cls== .type "tuple"&&(LG o.data).any λvs=>DT vs xs
   | _=>false)
  | _=>false)
 | _=>false
noncomputable def kJ:List String:=["len","abs","min","max","sorted","tuple","list","dict","bytes","repr","range","reversed","isinstance","bool","int"]
noncomputable def oy (K:Frag):Option SL:=(sQ K "law").bind λq=>dz 99 q.1.scope (q.2.take 16)
structure Wi (K:Frag):Prop where
 fns:(fq.all λx=>Pm K x.1 x.2.1)=true
 Jr:fq.map (λx=>(sQ K x.1).bind λq=>dz 99 q.1.scope q.2)=fq.map λx=>some x.2.2
 front:oy K=some G6
 cls:∀c C,ca K c=some C->Jj K C
 M6:(FX.all λx=>(b7 K x.1).any λC=>LM K C x.2 "__init__")=true
 ay:(aa.all λx=>(b7 K x.1.1).any λC=>LM K C x.2 x.1.2)=true
 bn:(kJ.all λb=>nsIn K mainGlobals (Str.ofString b)==some none)=true
 told:b7 K "told_objects"=b7 K "told"
 Px:(D5.all λt=>gH.all λc=>(sE K c).any λcv=>kitOne K (.type t) cv==some (Rv t c))=true
 qd:(insts.all λd=>gH.all λc=>(b7 K d).any λD=>(sE K c).any λcv=>kitOne K (.ref D) cv==some (xf d c))=true
 HI:specialIn K (.builtin "object.__class__") "__get__"=some (some (.builtin "getset_descriptor.__get__"))
 takes:takesIn K (.builtin "object.__class__")=some true
 fk:(nO.all λf=>(b7 K f).any λa=>keepIn K (.ref a)&&isFn K (.ref a))=true
 Aq:(Je.all λx=>yT K x.1 x.2)=true
structure Wd (M:Mo):Prop where
 X:M.K.In M.h0
 top:∃p loose mg mb,TopRead p loose mg mb M.h0
 ok:Wi M.K
structure Hm (k:Nat) (A:Around):Prop where
 hd:A.handled=none
 guards:A.guards=some []
 depth:A.depth+4*k<=802
 units:A.units+40*k<=4220
structure Cx (k:Nat) (A:Around):Prop where
 hd:A.handled=none
 guards:A.guards=some []
 depth:A.depth+4*k<=800
 units:A.units+40*k<=4200
theorem Cx.call {k:Nat} {A:Around} (c:Cx k A):Hm k A:=⟨c.hd,c.guards,aaw c.depth (by decide),aaw c.units (by decide)⟩
theorem Cx.room {k:Nat} {A:Around} (c:Cx k A):A.units+102 < cLine:=aaz (abb (aaw (aaM _ _) c.units) 102) (by rw [cLine_is];decide)
theorem Cx.vu {k:Nat} {A:Around} (c:Cx k A):A.units+100 < cLine:=aaz (abj (by decide) _) c.room
theorem Cx.rE {k:Nat} {A:Around} (c:Cx k A):A.units < cLine:=aaz (aaM _ _) c.room
noncomputable abbrev bL:Value->Shared->Prop:=λzz zz=>False
noncomputable abbrev AA (M:Mo) (p:Pt) (Q:KV) (T:Value->Shared->Prop):Prop:=∀p' v av,Q av p'.H->VR p' v av->After M c6 p p'->T v p'.s
noncomputable abbrev Rb (M:Mo) (p:Pt) (Q:KL) (T:List Value->Shared->Prop):Prop:=∀p' vs bG,Q bG p'.H->L2 (VR p') vs bG->After M c6 p p'->T vs p'.s
noncomputable def Ev (M:Mo) (A:Around) (p:Pt) (t:Sem Value) (Q:KV):Prop:=∀T,AA M p Q T->wpAny M.m A t T bL p.s
noncomputable def Yt (M:Mo) (A:Around) (p:Pt) (t:Sem (List Value)) (Q:KL):Prop:=∀T,Rb M p Q T->wpAny M.m A t T bL p.s
noncomputable def Eo (P:Value->Shared->Prop):Result->Shared->Prop
 | .ok r,s'=>(match r with
  | .ret v=>P v s'
  | _=>False)
 | _,_=>False
noncomputable def pO (M:Mo) (key:String) (k:Nat) (as:List AV) (H:HP) (Q:KV):Prop:=
 ∀a,fa M.K key=some a->∀(A:Around) (W:WM) (s:Shared) (vs:List Value),Hm k A->Rep M ⟨W,H,s⟩->L2 (VR ⟨W,H,s⟩) vs as->∀T,AA M ⟨W,H,s⟩ Q T->codeAny M.m A (.call (.ref a) ⟨vs,[]⟩) (Eo T) s
noncomputable def JZ (as:List AV) (H:HP) (Q:KV):Prop:=(as=[vA]/\Q (.str tA) H)\/(as=[vB]/\Q (.str tB) H)
noncomputable def Γc (M:Mo) (k:Nat):aj:=λkey as H Q=>pO M key k as H Q/\(key="repr"->JZ as H Q)
structure aI (M:Mo) (p:Pt) (sc:Scope) (env:Env) (loc:Loc):Prop where
 fn:env.scope.kind= .function
 gl:env.globals=mainGlobals
 bi:env.builtins=builtinsNs
 LJ:∀x,sc.names.lookup x=some .local->env.kindOf x=some .local
 z6:∀x,sc.names.lookup x=some .cell->env.kindOf x=some .cell
 EM:∀x,sc.names.lookup x=some .free->env.kindOf x=some .cell\/env.kindOf x=some .free
 Fn:∀x,sc.names.lookup x=some .globalImplicit->env.kindOf x=some .globalImplicit
 ns:∃m,p.h.Ns env.locals m/\∀x,loc x≠ .unset->Str.ofString x≠(".0":Str)->env.kindOf (Str.ofString x)=some .local->∃v,m (Str.ofString x)=some v/\VR p v (loc x)
 mW:¬Own p env.locals/\M.h0.objs.size<=env.locals
 cells:∀x c,env.cells.lookup x=some c->(∃ov,p.h.IsCell c ov)/\¬Own p c/\M.h0.objs.size<=c
 apart:∀x y c,env.cells.lookup x=some c->env.cells.lookup y=some c->x=y
 mS:∀x,loc x≠ .unset->(env.kindOf (Str.ofString x)=some .cell\/env.kindOf (Str.ofString x)=some .free)->∃c v,env.cells.lookup (Str.ofString x)=some c/\p.h.IsCell c (some v)/\VR p v (loc x)
 KY:∀x,env.kindOf x=some .cell\/env.kindOf x=some .free->∃c,env.cells.lookup x=some c
noncomputable def fO (sc:Scope) (env:Env):Addr->Prop:=λx=>x=env.locals\/∃y,sc.names.lookup y=some .cell/\env.cells.lookup y=some x
structure nv (M:Mo) (k:Nat) (A:Around) (p:Pt) (sc:Scope) (env:Env) (loc:Loc):Prop where
 cx:Cx k A
 eo:aI M p sc env loc
 rep:Rep M p
section
variable {M:Mo} {k:Nat} {A:Around} {p p':Pt} {sc:Scope} {env:Env} {loc:Loc} {Q:KV} {T:Value->Shared->Prop}
theorem xP {h h':Heap} {a:Addr} {m:Str->Option Value} (x:h.Ns a m) (k:∀o,h.get? a=some o->h'.get? a=some o):h'.Ns a m:=
 x.imp λo x=>x.imp λes x=>x.imp λep x=>⟨k o x.1,x.2⟩
theorem wJ {h h':Heap} {a:Addr} {v:Option Value} (x:h.IsCell a v) (k:∀o,h.get? a=some o->h'.get? a=some o):h'.IsCell a v:=x.imp λo x=>⟨k o x.1,x.2⟩
theorem k6 {h:Heap} {a:Addr} {v:Option Value} (x:h.IsCell a v):a < h.objs.size:=x.elim λo x=>Heap.lt_size x.1
theorem aI.ju {B:Addr->Prop} (e:aI M p sc env loc) (a:After M B p p') (nl:¬B env.locals) (nc:∀x c,env.cells.lookup x=some c->¬B c):aI M p' sc env loc:=by
 refine aw e.ns λm hm hv=>?_
 have kC:∀{x c},env.cells.lookup x=some c->∀o,p.h.get? c=some o->p'.h.get? c=some o:=λhc o q=>a.keep _ o q (e.cells _ _ hc).2.1 (nc _ _ hc)
 exact {e with
  ns:=⟨m,xP hm λo q=>a.keep _ o q e.mW.1 nl,λx h1 h0 h2=>(hv x h1 h0 h2).imp λv q=>⟨q.1,a.rel q.2⟩⟩
  mW:=⟨a.own hm.lt e.mW.1,e.mW.2⟩
  cells:=λx c hc=>have q:=e.cells x c hc;q.1.elim λov z=>⟨⟨ov,wJ z (kC hc)⟩,a.own (k6 z) q.2.1,q.2.2⟩
  mS:=λx h1 h2=>(e.mS x h1 h2).imp λc q=>q.imp λv q=>⟨q.1,wJ q.2.1 (kC q.1),a.rel q.2.2⟩}
theorem aI.after (e:aI M p sc env loc) (a:After M c6 p p'):aI M p' sc env loc:=e.ju a id λzz zz zz=>id
theorem aI.ltB (e:aI M p sc env loc) {x:Addr} (h:fO sc env x):x < p.h.objs.size:=h.elim (λh=>h▸e.ns.elim λzz h=>h.1.lt) λh=>h.elim λy h=>(e.cells _ _ h.2).1.elim λzz h=>k6 h
theorem nv.after (z:nv M k A p sc env loc) (a:After M c6 p p'):nv M k A p' sc env loc:=⟨z.cx,z.eo.after a,a.rep⟩
theorem AA.step (hT:AA M p Q T) (a:After M c6 p p'):AA M p' Q T:=λq v av h r b=>hT q v av h r (a.trans b)
theorem Rb.step {Q:KL} {T:List Value->Shared->Prop} (hT:Rb M p Q T) (a:After M c6 p p'):Rb M p' Q T:=λq v av h r b=>hT q v av h r (a.trans b)
theorem Ev.cO {t:Sem Value} (h:Ev M A p' t Q) (a:After M c6 p p') (hT:AA M p Q T):wpAny M.m A t T bL p'.s:=h _ (hT.step a)
end
noncomputable def aA (M:Mo) (x:X) (sc:Scope) (e:Expr):Prop:=∀{k:Nat} {A:Around} {p:Pt} {env:Env} {loc:Loc} {Q:KV},nv M k A p sc env loc->x (Γc M k) loc p.H Q->Ev M A p (eval e env) Q
noncomputable def rm (M:Mo) (x:XL) (sc:Scope) (es:List Expr):Prop:=∀{k:Nat} {A:Around} {p:Pt} {env:Env} {loc:Loc} {Q:KL} (pos:Pos),nv M k A p sc env loc->x (Γc M k) loc p.H Q->Yt M A p (spliced (backTo pos (starEach es env))) Q
noncomputable def Tr (v:AV) (H:HP) (b:Bool):Prop:=∀F:KB,cP v H F->F b H
noncomputable def d6 (M:Mo) (x:X) (sc:Scope) (e:Expr):Prop:=∀{k:Nat} {A:Around} {p:Pt} {env:Env} {loc:Loc} {F:AV->KB},nv M k A p sc env loc->x (Γc M k) loc p.H (λv H=>cP v H (F v))->
 ∀T:Bool->Shared->Prop,(∀p' v b,Tr v p'.H b->F v b p'.H->After M c6 p p'->T b p'.s)->wpAny M.m A (isTrue e env (eval e env)) T bL p.s
theorem be {M:Model} {A:Around} {E:Value->Shared->Prop} {s:Shared} {α:Type} {t t':Sem α} {Q:α->Shared->Prop} (e:t=t') (h:wpAny M A t' Q E s):wpAny M A t Q E s:=e▸h
theorem mz {M:Model} {A:Around} {E:Value->Shared->Prop} {s:Shared} {α:Type} {c:Prop} [Decidable c] {a b:Sem α} {Q:α->Shared->Prop} (hc:¬c) (h:wpAny M A b Q E s):wpAny M A (if c then a else b) Q E s:=be (if_neg hc) h
theorem FC {M:Model} {A:Around} {E:Value->Shared->Prop} {s:Shared} {α:Type} {c:Prop} [Decidable c] {a b:Sem α} {Q:α->Shared->Prop} (hc:c) (h:wpAny M A a Q E s):wpAny M A (if c then a else b) Q E s:=be (if_pos hc) h
theorem n8:∀l:List Nat,l.all (Nat.blt · 128)=true->(l.map Char.ofNat).map Char.toNat=l
 | [],_=>rfl
 | n::r,h=>by
  have h:=aaV.mp h
  have:=Nat.blt_eq.mp h.1
  rw [aa4,aa4,n8 r h.2]
  exact congrArg (· ::r) ((by decide+kernel:∀n:Fin 128,(Char.ofNat n.1).toNat=n.1) ⟨n,this⟩)
theorem bg {α:Type} {b:Bool} {o:Option α} {x:α} (h:(bif b then o else none)=some x):b=true/\o=some x:=by
 cases b
 .cases h
 .exact ⟨rfl,h⟩
theorem bb {α β:Type} {o:Option α} {f:α->Option β} {y:β} (h:o.bind f=some y):∃x,o=some x/\f x=some y:=Option.bind_eq_some_iff.mp h
theorem bm {α β:Type} {o:Option α} {f:α->β} {y:β} (h:o.map f=some y):∃x,o=some x/\f x=y:=Option.map_eq_some_iff.mp h
theorem ky {y:Str} {x:String} (h:OC y=some x):y=Str.ofString x:=by
 refine qk (bg h) λh1 h2=>?_
 rw [<-aay h2,Str.ofString_eq_toList,toS,String.toList_ofList,n8 _ h1]
theorem cD {ks:List String} {y:Str} {x:String} (h:iW ks y=some x):y=Str.ofString x/\x∈ks:=⟨beq_iff_eq.mp (@List.find?_some _ (λs=>y==Str.ofString s) _ _ h),List.mem_of_find?_eq_some h⟩
theorem tQ {y c:Str} (h:fx y=true) (hc:fx c=false):y≠c:=λe=>by rw [e,hc] at h;cases h
theorem hV {y c:Str} (h:fx y=true) (hc:fx c=false):(y==c)=false:=beq_eq_false_iff_ne.mpr (tQ h hc)
theorem m9:fx "__debug__"=false:=by decide+kernel
theorem v6:fx "__classdict__"=false:=by decide+kernel
theorem L1:fx "__name__"=false:=by decide+kernel
theorem PA:fx ".0"=false:=by decide+kernel
theorem rM {sc:Scope} {y:Str} {x:String} (h:sJ sc y=some x):y=Str.ofString x/\fx y=true/\(sc.names.lookup y=some .local\/sc.names.lookup y=some .cell\/sc.names.lookup y=some .free):=by
 refine qk (bg h) λh1 h2=>?_
 have h1:=aaV.mp h1
 refine ⟨ky h2,h1.1,?_⟩
 have h3:=h1.2
 revert h3
 cases sc.names.lookup y with
 | none=>exact λh=>Bool.noConfusion h
 | some k=>cases k<;>first | exact λzz=>.inl rfl | exact λzz=>.inr (.inl rfl) | exact λzz=>.inr (.inr rfl) | exact λh=>Bool.noConfusion h
theorem Bb {sc:Scope} {y:Str} {x:String} (h:x6 sc y=some x):y=Str.ofString x/\fx y=true/\(sc.names.lookup y=some .local\/sc.names.lookup y=some .cell):=by
 refine qk (bg h) λh1 h2=>?_
 have h1:=aaV.mp h1
 refine ⟨ky h2,h1.1,?_⟩
 have h3:=h1.2
 revert h3
 cases sc.names.lookup y with
 | none=>exact λh=>Bool.noConfusion h
 | some k=>cases k<;>first | exact λzz=>.inl rfl | exact λzz=>.inr rfl | exact λh=>Bool.noConfusion h
theorem jm {sc:Scope} {y:Str} (h:aU sc y=true):fx y=true/\sc.names.lookup y=some .globalImplicit:=(aaV.mp h).imp id beq_iff_eq.mp
theorem Cz {v:AV} {H:HP} {Q:KV} (h:Da v H Q):v≠ .unset/\Q v H:=match v,h with
 | .none,h | .bool _,h | .int _,h | .str _,h | .bytes _,h | .tup _,h | .ref _,h=>⟨(nomatch ·),h⟩
theorem aG {v:AV} {F:Int->Prop} (h:jE v F):∃i,v= .int i/\F i:=match v,h with
 | .int i,h=>⟨i,rfl,h⟩
theorem z9 {v:AV} {F:String->Prop} (h:SE v F):∃i,v= .str i/\F i:=match v,h with
 | .str i,h=>⟨i,rfl,h⟩
theorem y9 {v:AV} {F:List AV->Prop} (h:Ss v F):∃i,v= .tup i/\F i:=match v,h with
 | .tup i,h=>⟨i,rfl,h⟩
theorem bK {v:AV} {F:Nat->Prop} (h:uT v F):∃i,v= .ref i/\F i:=match v,h with
 | .ref i,h=>⟨i,rfl,h⟩
theorem bZ {o:AO} {F:List AV->Prop} (h:Av o F):∃xs,o= .list xs/\F xs:=match o,h with
 | .list xs,h=>⟨xs,rfl,h⟩
theorem tC {o:AO} {F:List (AV × AV)->Prop} (h:UY o F):∃xs,o= .dict xs/\F xs:=match o,h with
 | .dict xs,h=>⟨xs,rfl,h⟩
theorem zE {o:AO} {F:String->List (String × AV)->Prop} (h:SW o F):∃c xs,o= .inst c xs/\F c xs:=match o,h with
 | .inst c xs,h=>(bH c xs ⟨rfl,h⟩)
theorem bE {α:Type} {o:Option α} {F:α->Prop} (h:opt o F):∃x,o=some x/\F x:=match o,h with
 | some x,h=>⟨x,rfl,h⟩
theorem fu {b:Bool} {P:Prop} (h:gd b P):b=true/\P:=match b,h with
 | true,h=>⟨rfl,h⟩
theorem cg {b:Bool} {F:Bool->Prop} (h:qg b F):F b:=(tT b).mp h
theorem iq {vs:List AV} {F:AV->Prop} (h:a1 vs F):∃v,vs=[v]/\F v:=match vs,h with
 | [v],h=>⟨v,rfl,h⟩
theorem DM {vs:List AV} {F:AV->AV->Prop} (h:a2 vs F):∃u v,vs=[u,v]/\F u v:=match vs,h with
 | u::_,h=>(iq h).elim λv h=>(bH u v ⟨congrArg (u::·) h.1,h.2⟩)
theorem cV {n:Nat} (h:n<=lim):n<=sizeLine:=aaw h (by decide)
theorem rV {n:Nat} (h:n<=lim):(n:Int) < 2 ^ 63:=Int.lt_of_le_of_lt (Int.ofNat_le.mpr h) (by decide)
theorem aT {e:Expr} (h:bh e=true) (r:List Expr) (env:Env):starEach (e::r) env=(false,eval e env)::starEach r env:=by
 cases e<;>first | rfl | exact absurd h aaE
section
variable {M:Mo} {k:Nat} {A:Around} {p p':Pt} {sc:Scope} {env:Env} {loc:Loc} {Q:KV} {T:Value->Shared->Prop} {x y z:X} {e f g:Expr} {c:Nat} {q q':Pos}
theorem Ev.eq {t t':Sem Value} (e:t=t') (h:Ev M A p t' Q):Ev M A p t Q:=e▸h
theorem Fb:aA M X.none sc (.Constant .none c q):=λz hq T hT=>wpAny_pure (hT _ _ .none hq rfl (.refl z.rep))
theorem DP {b:Bool}:aA M (X.bool b) sc (.Constant (.bool b) c q):=λz hq T hT=>wpAny_pure (hT _ _ (.bool b) hq rfl (.refl z.rep))
theorem Hr {i:Int}:aA M (X.int i) sc (.Constant (.int i) c q):=λ{zz zz p zz zz zz} z hq T hT=>wpAny_mkInt (hT (p.at p.h _) _ (.int i) hq ⟨_,rfl⟩ (.toks z.rep _))
theorem Ia {t:String}:aA M (X.str t) sc (.Constant (.str (Str.ofString t)) c q):=λ{zz zz p zz zz zz} z hq T hT=>wpAny_mkText (hT (p.at p.h _) _ (.str t) hq ⟨_,rfl⟩ (.toks z.rep _))
theorem A6 {t:List UInt8}:aA M (X.bytes t) sc (.Constant (.bytes t) c q):=λ{zz zz p zz zz zz} z hq T hT=>wpAny_mkTextBytes (hT (p.at p.h _) _ (.bytes t) hq ⟨_,rfl⟩ (.toks z.rep _))
theorem G4 {i:Int}:aA M (X.neg i) sc (.UnaryOp .USub (.Constant (.int i) c q) q'):=λ{zz zz p zz zz zz} z hq=>.eq (arm_eval_UnaryOp ..) λT hT=>wpAny_bind (wpAny_mkInt (wpAny_bind (wpAny_standAt (wpAny_holding (neg_int (hT (p.at p.h _) _ (.int (-i)) hq ⟨_,rfl⟩ (.toks z.rep _)))))))
theorem Im (eo:aI M p sc env loc) {y:Str} {x:String} (h:sJ sc y=some x) (hu:loc x≠ .unset) (hT:∀v,VR p v (loc x)->T v p.s):wpAny M.m A (loadName env y) T bL p.s:=by
 refine NS (rM h) λe0 hn hk=>?_;subst e0
 have cell:env.kindOf (Str.ofString x)=some .cell\/env.kindOf (Str.ofString x)=some .free->wpAny M.m A (loadName env (Str.ofString x)) T bL p.s:=λq=>
  aq (eo.mS x hu q) λc v z=>q.elim (λq=>wpAny_loadName_cell eo.fn q z.1 z.2.1 (hT v z.2.2)) λq=>wpAny_loadName_free eo.fn q z.1 z.2.1 (hT v z.2.2) (hV hn v6)
 exact hk.elim (λhk=>eo.ns.elim λm hm=>(hm.2 x hu (tQ hn PA) (eo.LJ _ hk)).elim λv z=>wpAny_loadName_local eo.fn (eo.LJ _ hk) hm.1 z.1 (hT v z.2)) λhk=>cell (hk.elim (λh=>.inl (eo.z6 _ h)) (eo.EM _))
end
section
variable {M:Mo} {k:Nat} {A:Around} {p p':Pt} {sc:Scope} {env:Env} {loc:Loc} {Q:KV} {T:Value->Shared->Prop} {x y z:X} {xs:XL} {e f g:Expr} {es:List Expr} {c:Nat} {q q':Pos}
theorem tq {n:Str} {x:String} (h:sJ sc n=some x):aA M (X.loc x) sc (.Name n q):=λ{zz zz p zz zz zz} z hq T hT=>
 have s:=Cz hq
 wpAny_Name (Im z.eo h s.1 λv r=>hT p v _ s.2 r (.refl z.rep)) (hV (rM h).2.1 m9)
theorem eR (W:Wd M) (eo:aI M p sc env loc) (R:Rep M p) {n:Str} (hg:aU sc n=true) {v:Value} (hv:nsIn M.K mainGlobals n=some (some v)) (h:T v p.s):wpAny M.m A (eval (.Name n q) env) T bL p.s:=
 have s:=jm hg
 bF W.top λzz zz mg zz t=>Name_function_global eo.fn (eo.Fn _ s.2) (loadGlobal_global ((eo.gl)▸t.g.keeps R.base) (mg_of W.X t.g hv) h) (hV s.1 m9)
theorem eF (W:Wd M) (eo:aI M p sc env loc) (R:Rep M p) {n:Str} (hg:aU sc n=true) {v:Value} (hm:nsIn M.K mainGlobals n=some none) (hv:bootBuiltins n=some v) (h:T v p.s):wpAny M.m A (eval (.Name n q) env) T bL p.s:=
 have s:=jm hg
 bF W.top λzz zz zz zz t=>Name_function_global eo.fn (eo.Fn _ s.2)
  (loadGlobal_builtin (by rw [eo.gl];exact t.g.keeps R.base) (mg_none_of W.X t.g hm) (by rw [eo.bi];exact t.b.keeps R.base) ((t.builtins _ (tQ s.1 L1)).trans hv) h) (hV s.1 m9)
theorem wq (W:Wd M) {b:String} (hb:b∈kJ):nsIn M.K mainGlobals (Str.ofString b)=some none:=beq_iff_eq.mp (aaX.mp W.ok.bn b hb)
theorem kV:rm M XL.nil sc []:=λpos z hq T hT=>wpAny_pure (hT _ [] [] hq .nil (.refl z.rep))
theorem gJ (hs:bh e=true) (h1:aA M x sc e) (h2:rm M xs sc es):rm M (XL.cons x xs) sc (e::es):=by
 intro k A p env loc Q pos z hq T hT
 rw [aT hs]
 show wpAny _ _ (spliced ((false,eval e env)::backTo pos (starEach es env))) _ _ _
 exact wpAny_bind (h1 z hq _ λp1 v av q r a=>wpAny_bind (wpAny_pure (wpAny_bind (wpAny_holding (h2 pos (z.after a) q _ λp2 vs bG q2 r2 b=>wpAny_pure (hT p2 _ (av::bG) q2 (.cons (b.rel r) r2) (a.trans b)))))))
theorem aB {vs:Array Value} {xs:List AV} (r:L2 (VR p) vs.toList xs):vs.size=xs.length:=r.len
theorem yq {vs:List Value} {xs:List AV} (R:Rep M p) (r:L2 (VR p) vs xs) (hz:xs.length<=lim) (hq:Q (.tup xs) p.H):Ev M A p (newTuple vs) Q:=λT hT=>
 have g:=dJ.push p.h {cls:= .type "tuple",data:= .seq vs.toArray}
 wpAny_newObj_type (hT (p.at _ _) _ (.tup xs) hq (.rO ⟨_,Heap.get?_push_size _ rfl,rfl,_,rfl⟩ (wU.mono (.grow g.tup) r)) (.grow R g)) (by show vs.toArray.size<=sizeLine;rw [List.size_toArray,r.len];exact cV hz)
theorem iD {vs:Array Value} {xs:List AV} {t:Nat} (R:Rep M p) (r:L2 (VR p) vs.toList xs) (hz:xs.length<=lim) (hq:Q (.ref p.n) (p.H.push (.list xs))) (hT:AA M p Q T):T (.ref p.h.objs.size) {p.s with heap:=p.h.push (m5 vs 0),toks:=t}:=
 have a:After M c6 p (p.at (p.h.push (m5 vs 0)) t):= .grow R (.push _ _)
 have n:=R.new (aaF p.h.objs.size)
 have z:=a.tell (o:= .list xs) (aaF _) (aaF _) n n R.sz ⟨rfl,vs,0,Heap.get?_push_size _ rfl,wU.mono .tell (a.o4 r),hz⟩
 hT _ _ (.ref p.n) hq z.2 z.1
theorem BY {vs:List Value} {xs:List AV} (R:Rep M p) (r:L2 (VR p) vs xs) (hz:xs.length<=lim) (hq:Q (.ref p.n) (p.H.push (.list xs))):Ev M A p (newList vs) Q:=λT hT=>
 wpAny_newObj_type (iD (vs:=vs.toArray) R r hz hq hT) (by show vs.toArray.size<=sizeLine;rw [List.size_toArray,r.len];exact cV hz)
theorem Jd (h:rm M xs sc es):aA M (X.tup xs) sc (.Tuple es c q):=λz hq=>.eq (arm_eval_Tuple ..) λT hT=>wpAny_bind (wpAny_standAt (wpAny_bind (h q z hq _ λp1 vs av q r a=>
 have s:=fu q
 (yq a.rep r (Nat.ble_eq.mp s.1) s.2).cO a hT)))
theorem F0 (h:rm M xs sc es):aA M (X.list xs) sc (.List es q):=λz hq=>.eq (arm_eval_List ..) λT hT=>wpAny_bind (wpAny_standAt (wpAny_bind (h q z hq _ λp1 vs av q r a=>
 have s:=fu q
 (BY a.rep r (Nat.ble_eq.mp s.1) s.2.run).cO a hT)))
theorem aK (R:Rep M p) {a:Nat} (ha:a < p.n) {xs:List AV} (e:p.H.g a= .list xs):∃vs k,F1 p (p.W.ρ a) vs k xs:=by
 have:=R.obj a ha
 rw [e] at this
 exact this.2
theorem NR (R:Rep M p) {a:Nat} (ha:a < p.n) {xs:List AV} (e:p.H.g a= .no xs):∃vs k,(∃d sl,p.h.get? (p.W.ρ a)=some ⟨.type "list",d,.seq vs k,sl⟩)/\L2 (VR p) vs.toList xs/\xs.length<=lim:=by
 have:=R.obj a ha
 rw [e] at this
 exact this.2
theorem cF (R:Rep M p) {a:Nat} (ha:a < p.n) {es:List (AV × AV)} (e:p.H.g a= .dict es):p.W.δ a=p.W.ρ a/\∃ds k,j5 M p (p.W.ρ a) ds k es:=by
 have:=R.obj a ha
 rw [e] at this
 exact this
theorem nj (R:Rep M p) {a:Nat} (ha:a < p.n) {c:String} {fs:List (String × AV)} (e:p.H.g a= .inst c fs):∃C ds k,O9 M p (p.W.ρ a) (p.W.δ a) c fs C ds k:=by
 have:=R.obj a ha
 replace this:=(e)▸this
 exact this
theorem cj {vs:Array Value} {k:Nat} {h:Heap} {x:Addr} (e:h.get? x=some (m5 vs k)):h.IsList x vs:=⟨_,e,rfl,k,rfl⟩
theorem kq {v:Value} {av:AV} {F:AV->KB} (R:Rep M p) (r:VR p v av) (q:cP av p.H (F av)) {T:Bool->Shared->Prop} (hT:∀t b,Tr av p.H b->F av b p.H->T b (p.at p.h t).s):wpAny M.m A (truthy v) T bL p.s:=by
 cases av with
 | none=>
  obtain rfl:=show v= .none from r
  exact truthy_none (hT p.s.toks false (λF h=>h) q)
 | bool b=>
  obtain rfl:=show v= .bool b from r
  exact wpAny_truthy_bool (hT p.s.toks b (λF h=>cg h) (cg q))
 | ref a=>
  obtain ⟨rfl,ha⟩:=r
  refine aw (bZ q.run) λxs e q=>?_
  refine aq (aK R ha e) λvs k l=>?_
  refine wpAny_truthy_list (cj l.at_) (by rw [aB l.l];exact rV l.len) ?_
  have:vs.isEmpty=xs.isEmpty:=by
   rw [Array.isEmpty,aB l.l]
   cases xs<;>rfl
  rw [this]
  refine hT _ _ (λF h=>?_) (cg q)
  have h:=h.run
  rw [e] at h
  exact cg h
 | _=>exact q.elim
theorem nv.tok (z:nv M k A p sc env loc) (t:Nat):After M c6 p (p.at p.h t):= .toks z.rep t
theorem IU (h:aA M x sc e) (he:∀env whole,isTrue e env whole=(do let v <-whole;standAt e.pos;holding [v] (truthy v))):d6 M x sc e:=by
 intro k A p env loc F z hq T hT
 refine be (he ..) ?_
 exact wpAny_bind (h z hq _ λp1 v av q r a=>wpAny_bind (wpAny_standAt (wpAny_holding (kq a.rep r q λt b hb hf=>hT _ av b hb hf (a.trans (.toks a.rep t))))))
theorem Ie (h:aA M x sc e):aA M (X.not x) sc (.UnaryOp .Not e q):=λz hq=>.eq (arm_eval_UnaryOp ..) λT hT=>wpAny_bind (h z hq _ λp1 v av q r a=>wpAny_bind (wpAny_standAt (wpAny_holding
 (not_of (kq (F:=λzz=>LN _) a.rep r q λt b hb hf=>hT (p1.at p1.h t) _ (.bool (!b)) hf rfl (a.trans (.toks a.rep t)))))))
theorem Cv (h:d6 M x sc e):d6 M (X.not x) sc (.UnaryOp .Not e q):=by
 intro k A p env loc F z hq T hT
 refine be (arm_isTrue_UnaryOp ..) ?_
 exact wpAny_bind (h (F:=λzz=>LN _) z hq _ λp1 v b hb hf a=>wpAny_pure (hT p1 (.bool !b) (!b) (λF h=>cg h) (cg hf) a))
theorem pZ (d:Bool) {t u:Sem Value} {F:AV->KB} (h:Ev M A p t (λv H=>cP v H (F v))) (go:∀p' v av b,F av b p'.H->VR p' v av->After M c6 p p'->bif b==d then T v p'.s else wpAny M.m A u T bL p'.s):wpAny M.m A (boolOp q (bif d then .Or else .And) [t,u]) T bL p.s:=by
 refine wpAny_bind (h _ λp1 v av q r a=>wpAny_bind (wpAny_standAt (wpAny_bind (wpAny_holding (kq a.rep r q λt b hb hf=>?_)))))
 have a2:After M c6 p1 _:= .toks a.rep t
 have g:=go (p1.at p1.h t) v av b hf (a2.rel r) (a.trans a2)
 cases d<;>cases b<;>first | exact wpAny_pure g | exact g
theorem G2 (h1:aA M x sc e) (h2:aA M y sc f):aA M (X.and x y) sc (.BoolOp .And [e,f] q):=λz hq=>.eq (arm_eval_BoolOp ..) λT hT=>pZ false (F:=λv=>Do _ _ _ v) (h1 z hq) λp1 v av b hf r a=>match b,hf with
 | true,hf=>(h2 (z.after a) hf).cO a hT
 | false,hf=>hT p1 v av hf r a
theorem Lf (h1:aA M x sc e) (h2:aA M y sc f):aA M (X.or x y) sc (.BoolOp .Or [e,f] q):=λz hq=>.eq (arm_eval_BoolOp ..) λT hT=>pZ true (F:=λv=>FW _ _ _ v) (h1 z hq) λp1 v av b hf r a=>match b,hf with
 | true,hf=>hT p1 v av hf r a
 | false,hf=>(h2 (z.after a) hf).cO a hT
noncomputable abbrev MO (M:Mo) (p:Pt) (F:AV->KB) (T:Bool->Shared->Prop):Prop:=∀p' v b,Tr v p'.H b->F v b p'.H->After M c6 p p'->T b p'.s
theorem MO.step {F:AV->KB} {T:Bool->Shared->Prop} (hT:MO M p F T) (a:After M c6 p p'):MO M p' F T:=λq v b h r c=>hT q v b h r (a.trans c)
theorem fG (d:Bool) (h:d6 M x sc e) {es:List Expr} {F:AV->KB} (z:nv M k A p sc env loc) (hq:x (Γc M k) loc p.H (λv H=>cP v H (F v))) {T:Bool->Shared->Prop}
  (go:∀p' v b,Tr v p'.H b->F v b p'.H->After M c6 p p'->bif b==d then T b p'.s else wpAny M.m A (allTrue (bif d then .Or else .And) es env) T bL p'.s):wpAny M.m A (allTrue (bif d then .Or else .And) (e::es) env) T bL p.s:=by
 refine be (arm_allTrue_cons ..) ?_
 refine wpAny_bind (h z hq _ λp1 v b hb hf a=>?_)
 have g:=go p1 v b hb hf a
 cases d<;>cases b<;>first | exact wpAny_pure g | exact g
theorem gN (d:Bool) {T:Bool->Shared->Prop} (h:wpAny M.m A (isTrue e env (eval e env)) T bL p.s):wpAny M.m A (allTrue (bif d then .Or else .And) [e] env) T bL p.s:=by
 refine be (arm_allTrue_cons ..) ?_
 refine wpAny_bind (wpAny_mono h (λb s' hb=>?_) λzz zz x=>x)
 cases d<;>cases b<;>first | exact wpAny_pure hb | (rw [arm_allTrue_nil];exact wpAny_pure hb)
theorem hU {op:BoolOp} {T:Bool->Shared->Prop} (h:wpAny M.m A (allTrue op es env) T bL p.s):wpAny M.m A (isTrue (.BoolOp op es q) env (eval (.BoolOp op es q) env)) T bL p.s:=by rw [arm_isTrue_BoolOp];exact h
theorem EV (h1:d6 M x sc e) (h2:d6 M y sc f):d6 M (X.and x y) sc (.BoolOp .And [e,f] q):=λ{zz zz zz zz zz F} z hq T hT=>hU (fG false (F:=λv=>Do _ _ _ v) h1 z hq λp1 v b hb hf a=>match b,hb,hf with
 | true,_,hf=>gN false (h2 (z.after a) hf _ (MO.step (F:=F) hT a))
 | false,hb,hf=>hT p1 v false hb (hb _ hf) a)
theorem IM (h1:d6 M x sc e) (h2:d6 M y sc f):d6 M (X.or x y) sc (.BoolOp .Or [e,f] q):=λ{zz zz zz zz zz F} z hq T hT=>hU (fG true (F:=λv=>FW _ _ _ v) h1 z hq λp1 v b hb hf a=>match b,hb,hf with
 | false,_,hf=>gN true (h2 (z.after a) hf _ (MO.step (F:=F) hT a))
 | true,hb,hf=>hT p1 v true hb (hb _ hf) a)
theorem CE (h1:d6 M x sc e) (h2:d6 M y sc f) (h3:d6 M z sc g):d6 M (X.or3 x y z) sc (.BoolOp .Or [e,f,g] q):=λ{zz zz zz zz zz F} z hq T hT=>hU (fG true (F:=λv=>FW _ _ _ v) h1 z hq λp1 v b hb hf a=>match b,hb,hf with
 | true,hb,hf=>hT p1 v true hb (hb _ hf) a
 | false,_,hf=>fG true (F:=λv=>FW _ _ _ v) h2 (z.after a) hf λp2 v b hb hf a2=>match b,hb,hf with
  | true,hb,hf=>hT p2 v true hb (hb _ hf) (a.trans a2)
  | false,_,hf=>gN true (h3 (z.after (a.trans a2)) hf _ (MO.step (F:=F) hT (a.trans a2))))
theorem IZ (h1:d6 M x sc e) (h2:aA M y sc f) (h3:aA M z sc g):aA M (X.ite x y z) sc (.IfExp e f g q):=λz hq=>.eq (arm_eval_IfExp ..) λT hT=>wpAny_bind (h1 (F:=λzz=>Qj _ _ _ _) z hq _ λp1 v b hb hf a=>match b,hf with
 | true,hf=>(h2 (z.after a) hf).cO a hT
 | false,hf=>(h3 (z.after a) hf).cO a hT)
end
end
section
open PySem PySem.W PySem.Spec PySem.Calls PyProof.Rows PySem.SeqAt
section
variable {M:Mo} {k:Nat} {A:Around} {p p':Pt} {sc:Scope} {env:Env} {loc:Loc} {Q:KV} {T:Value->Shared->Prop}
theorem KD (l:List Nat):(l.all λzz=>true)=true:=aaX.mpr λzz zz=>rfl
mutual
theorem L8:∀(x:AV) (d:Nat),x.plain d=true->∀(A:Around) (v v':Value),VR p v x->VR p v' x->A.units+d < cLine->EqAt A p.s v v' true
 | .none,_,_,A,v,v',r,r',_=>by
  obtain rfl:=show v= .none from r;obtain rfl:=show v'= .none from r';exact EqAt.same _
 | .int i,_,_,A,v,v',r,r',_=>by
  obtain ⟨t,rfl⟩:=r;obtain ⟨u,rfl⟩:=r'
  have:=EqAt.int_int (A:=A) (s:=p.s) i t i u
  rwa [beq_self_eq_true] at this
 | .str i,_,_,A,v,v',r,r',_=>by
  obtain ⟨t,rfl⟩:=r;obtain ⟨u,rfl⟩:=r'
  have:=EqAt.str_str (A:=A) (s:=p.s) (Str.ofString i) t (Str.ofString i) u
  rwa [beq_self_eq_true] at this
 | .bytes b,_,_,A,v,v',r,r',_=>by
  obtain ⟨t,rfl⟩:=r;obtain ⟨u,rfl⟩:=r'
  exact λprog w E Q h=>eqBool_bytes (by rw [decide_eq_true rfl];exact h)
 | .tup xs,0,hp,_,_,_,_,_,_=>Bool.noConfusion hp
 | .tup xs,d+1,hp,A,v,v',r,r',hu=>by
  refine aS r λx vs e0 i1 l1=>?_;subst e0
  refine aS r' λy us e1 i2 l2=>?_;subst e1
  by_cases q:x=y
  .exact (q)▸EqAt.same _
  .have hu:A.in1.units+d < cLine:=by show A.units+1+d < cLine;rw [aa9,abg 1];exact hu
   have:=RcAt.tuples (A:=A) (e:=λzz=>true) i1 i2 (aaz (aba _) (aaz (aaM _ d) hu)) λj h1 h2=>nG xs d hp A.in1 _ _ l1 l2 hu j h1 h2
   refine EqAt.of_refs q ?_
   rw [aB (fD.mp l1),aB (fD.mp l2),KD,beq_self_eq_true] at this
   exact this
 | .bool _,_,hp,_,_,_,_,_,_=>Bool.noConfusion hp
 | .ref _,_,hp,_,_,_,_,_,_=>Bool.noConfusion hp
 | .unset,_,hp,_,_,_,_,_,_=>Bool.noConfusion hp
theorem nG:∀(xs:List AV) (d:Nat),AV.eu xs d=true->∀(A:Around) (vs vs':List Value),L3 p xs vs->L3 p xs vs'->A.units+d < cLine->∀(j:Nat) (h1:j < vs.length) (h2:j < vs'.length),EqAt A p.s vs[j] vs'[j] true
 | [],_,_,_,vs,_,r,_,_,_,h1,_=>by obtain rfl:=show vs=[] from r;exact absurd h1 (Nat.not_lt_zero _)
 | x::xs,d,hp,A,_,_,r,r',hu,j,h1,h2=>by
  obtain ⟨v,l,rfl,r,q⟩:=r
  obtain ⟨v',l',rfl,r',q'⟩:=r'
  have hp:=aaV.mp hp
  cases j with
  | zero=>exact L8 x d hp.1 A _ _ r r' hu
  | succ j=>exact nG xs d hp.2 A _ _ q q' hu j (Nat.lt_of_succ_lt_succ h1) (Nat.lt_of_succ_lt_succ h2)
end
theorem cE {a b:String} (h:Str.ofString a=Str.ofString b):a=b:=by
 rw [Str.ofString_eq_toList,Str.ofString_eq_toList] at h
 exact String.toList_inj.mp ((List.map_inj_right (λx y h=>Char.ext (UInt32.toNat_inj.mp h))).mp (congrArg Array.toList (Str.mk.inj h)))
theorem cC (a b:String):(Str.ofString a==Str.ofString b)=decide (a=b):=by
 by_cases q:a=b
 .rw [q,beq_self_eq_true,decide_eq_true rfl]
 .rw [decide_eq_false q,beq_eq_false_iff_ne];exact λe=>q (cE e)
theorem RK (a b:Int):(a==b)=decide (a=b):=rfl
theorem Oo (hu:A.units+100 < cLine) (R:Rep M p) {v u:Value} {a b:AV} (ra:VR p v a) (rb:VR p u b) {F:Bool->Prop} (hq:MN a b p.H F):∃t,F t/\RcAt A p.s v u t/\RcNeAt A p.s v u (!t):=by
 have u1:A.units < cLine:=aaz (aaM _ _) hu
 have u2:A.in1.units+eG < cLine:=aaz (by show A.units+1+60<=A.units+100;exact abj (by decide:61<=100) A.units) hu
 cases a with
 | int i=>
  obtain ⟨j,rfl,hq⟩:=aG hq
  obtain ⟨t,rfl⟩:=ra;obtain ⟨u,rfl⟩:=rb
  exact ⟨_,cg hq,RcAt.int_int _ _ _ _,RcNeAt.int_int _ _ _ _⟩
 | str i=>
  obtain ⟨j,rfl,hq⟩:=z9 hq
  obtain ⟨t,rfl⟩:=ra;obtain ⟨u,rfl⟩:=rb
  refine ⟨_,cg hq,?_⟩
  rw [<-cC]
  exact ⟨RcAt.str_str _ _ _ _,RcNeAt.str_str _ _ _ _⟩
 | tup xs=>
  refine E7 (y9 hq) λys e0 t0 hf=>?_;subst e0;refine qk t0 λe1 hp=>?_;subst e1
  refine aS ra λx vs e2 i1 l1=>?_;subst e2
  refine aS rb λy us e3 i2 l2=>?_;subst e3
  have e:=λj h1 h2=>nG xs eG hp A.in1 _ _ l1 l2 u2 j h1 h2
  have g:=RcAt.tuples (e:=λzz=>true) i1 i2 u1 e
  have g':=RcNeAt.tuples (e:=λzz=>true) i1 i2 u1 e
  rw [aB (fD.mp l1),aB (fD.mp l2),KD,beq_self_eq_true] at g g'
  exact ⟨_,hf,g,g'⟩
 | ref a=>
  obtain ⟨rfl,la⟩:=ra
  refine aw (bZ hq.run) λxs ea hq=>?_
  refine bU (bK hq) λb e4 hq=>?_;subst e4
  obtain ⟨rfl,lb⟩:=rb
  refine aw (bZ hq.run) λys eb hq=>?_
  refine aq (aK R la ea) λvs zz l1=>?_
  refine aq (aK R lb eb) λus zz l2=>?_
  rcases hq with ⟨⟨rfl,hp⟩,hq⟩ | ⟨ne,hq⟩
  .have z:vs.size=us.size:=(aB l1.l).trans (aB l2.l).symm
   have e:=λj h1 h2=>nG xs eG hp A.in1 _ _ (fD.mpr l1.l) (fD.mpr l2.l) u2 j h1 h2
   have g:=RcAt.lists (e:=λzz=>true) (cj l1.at_) (cj l2.at_) z u1 e
   have g':=RcNeAt.lists (e:=λzz=>true) (cj l1.at_) (cj l2.at_) z u1 e
   rw [KD] at g g'
   exact ⟨_,hq,g,g'⟩
  .have z:(vs.size != us.size)=true:=by rw [aB l1.l,aB l2.l];exact bne_iff_ne.mpr ne
   exact ⟨_,hq,RcAt.lists_lengths (cj l1.at_) (cj l2.at_) z u1,RcNeAt.lists_lengths (cj l1.at_) (cj l2.at_) z u1⟩
 | _=>exact hq.elim
end
noncomputable def gB (k:AV) (es:List (AV × AV)):Option Nat:=es.findIdx? λe=>i8 e.1 k
theorem Rs (k:AV):gB k []=none:=rfl
theorem iE (k:AV) (e:AV × AV) (r:List (AV × AV)):gB k (e::r)=bif i8 e.1 k then some 0 else (gB k r).map (· +1):=by
 unfold gB
 rw [List.findIdx?_cons]
 cases i8 e.1 k<;>rfl
theorem oS (k:AV):∀es:List (AV × AV),getD k es=(gB k es).bind λi=>(es[i]?).map (·.2)
 | []=>rfl
 | e::r=>by
  rw [iE,getD,oS k r]
  cases i8 e.1 k
  .cases gB k r<;>rfl
  .rfl
theorem wz (k v:AV):∀es:List (AV × AV),bS k v es=((gB k es).map λi=>es.modify i λe=>(e.1,v)).getD (es++[(k,v)])
 | []=>rfl
 | e::r=>by
  rw [iE,bS,wz k v r]
  cases i8 e.1 k
  .cases gB k r<;>rfl
  .rfl
theorem wR (k:AV):∀es:List (AV × AV),wB k es=((gB k es).map es.eraseIdx).getD es
 | []=>rfl
 | e::r=>by
  rw [iE,wB,wR k r]
  cases i8 e.1 k
  .cases gB k r<;>rfl
  .rfl
theorem yM {k:AV}:∀{es:List (AV × AV)} {i:Nat},gB k es=some i->∃e,es[i]? =some e
 | [],_,h=>nomatch h
 | e::r,i,h=>by
  rw [iE] at h
  cases q:i8 e.1 k
  .replace h:=(q)▸h
   refine aw (bm h) λj h1 e0=>?_;subst e0
   exact (yM h1:)
  .replace h:=(q)▸h
   obtain rfl:=aay h
   exact ⟨e,rfl⟩
theorem L2.modify {α β:Type} {r:α->β->Prop} {f:α->α} {g:β->β} (SI:∀a b,r a b->r (f a) (g b)):∀{l:List α} {m:List β} (i:Nat),L2 r l m->L2 r (l.modify i f) (m.modify i g):=by
 intro l m i h
 induction h generalizing i with
 | nil=>cases i<;>exact .nil
 | cons a b ih=>
  cases i with
  | zero=>exact .cons (SI _ _ a) b
  | succ i=>exact .cons a (ih i)
theorem L2.eraseIdx {α β:Type} {r:α->β->Prop}:∀{l:List α} {m:List β} (i:Nat),L2 r l m->L2 r (l.eraseIdx i) (m.eraseIdx i):=by
 intro l m i h
 induction h generalizing i with
 | nil=>exact .nil
 | cons a b ih=>
  cases i with
  | zero=>exact b
  | succ i=>exact .cons a (ih i)
theorem jY {k v:AV}:∀{es:List (AV × AV)},(bS k v es).length<=es.length+1
 | []=>aaF _
 | e::r=>by
  rw [bS]
  cases i8 e.1 k
  .exact aa1 jY
  .exact aba _
section
variable {M:Mo} {k:Nat} {A:Around} {p p':Pt} {sc:Scope} {env:Env} {loc:Loc} {Q:KV} {T:Value->Shared->Prop}
theorem oE {x:AV} (h:kk x=1):∃s,x= .str s:=by
 cases x with
 | str s=>exact ⟨s,rfl⟩
 | tup xs=>replace h:(bif xs.all AV.qd then 3 else 0)=_:=h;cases q:xs.all AV.qd<;>rw [q] at h<;>exact absurd h (by decide)
 | _=>cases h
theorem te {x:AV} (h:kk x=2):∃s,x= .int s:=by
 cases x with
 | int s=>exact ⟨s,rfl⟩
 | tup xs=>replace h:(bif xs.all AV.qd then 3 else 0)=_:=h;cases q:xs.all AV.qd<;>rw [q] at h<;>exact absurd h (by decide)
 | _=>cases h
theorem FG:∀{xs:List AV},xs.all AV.qd=true->∃is:List Int,xs=is.map .int:=by
 intro xs
 induction xs with
 | nil=>exact λzz=>⟨[],rfl⟩
 | cons a r ih=>
  intro h
  have h:=aaV.mp h
  cases a with
  | int i=>exact (ih h.2).imp' (i::·) λis e=>congrArg (AV.int i::·) e
  | _=>exact (aaE h.1).elim
theorem Rm (is:List Int):(is.map AV.int).all AV.qd=true:=by rw [List.all_map];exact aaX.mpr λzz zz=>rfl
theorem xM {x:AV} (h:kk x=3):∃is:List Int,x= .tup (is.map .int):=by
 cases x with
 | tup xs=>
  replace h:(bif xs.all AV.qd then 3 else 0)=3:=h
  cases q:xs.all AV.qd<;>rw [q] at h
  .exact absurd h (by decide)
  .exact (FG q).imp λis e=>congrArg AV.tup e
 | _=>cases h
theorem JE (x:AV) (h:kk x≠0):kk x=1\/kk x=2\/kk x=3:=by
 cases x with
 | str _=>exact .inl rfl
 | int _=>exact .inr (.inl rfl)
 | tup xs=>
  simp only [kk] at h ⊢
  cases q:xs.all AV.qd<;>rw [q] at h
  .exact absurd rfl h
  .exact .inr (.inr rfl)
 | _=>exact absurd rfl h
theorem vK:∀{is:List Int} {vs:List Value},L2 (VR p) vs (is.map .int)->ItemsAre (intKind M.prog M.w) is vs
 | [],vs,h=>by exact (h.df)▸ .nil
 | i::is,vs,h=>by
  refine cf h.aX λv l e0 t0 hl=>?_;subst e0;obtain ⟨t,rfl⟩:=t0
  exact .cons (decide_eq_true rfl) (vK hl)
theorem xU {is:List Int} {v:Value} (r:VR p v (.tup (is.map .int))):∃x,v= .ref x/\(tupleKind (intKind M.prog M.w)).is p.h is x:=by
 refine cf r.tup λx vs e0 t0 l=>?_;subst e0;refine jB t0 λo h1 h2 n h3=>?_
 exact ⟨x,rfl,o,_,_,h1,h2,h3,vK l⟩
theorem tG (P:Params) (is:List Int):vQ P (.tup (is.map .int))=tupleKeyHash (intKind M.prog M.w) is:=by
 show reduceHash (Builtin.Tuple.tupleHashOf ((is.map AV.int).map λx=>hashInt (J8 x)))=_
 rw [aa5]
 rfl
theorem yV (hu:A.units < cLine) {v:Value} {x:AV} (r:VR p v x) (hk:kk x≠0) {T:Int->Shared->Prop} (hT:∀t,T (vQ M.w.params x) (p.at p.h t).s):wpAny M.m A (pyHash v) T bL p.s:=by
 rcases JE x hk with h | h | h
 .refine wV (oE h) λi e0=>?_;subst e0
  obtain ⟨t,rfl⟩:=r
  exact (PySem.strKind M.prog M.w).pyHash (k:=Str.ofString i) (beq_self_eq_true _) (hT _)
 .refine wV (te h) λi e1=>?_;subst e1
  obtain ⟨t,rfl⟩:=r
  exact (intKind M.prog M.w).pyHash (k:=i) (decide_eq_true rfl) (hT _)
 .refine wV (xM h) λis e2=>?_;subst e2
  refine bU (xU (M:=M) r) λy e3 hy=>?_;subst e3
  refine wpAny_pyHash_tuple hu hy ?_
  have:=hT (p.s.toks+(is.length+1))
  rw [tG (M:=M)] at this
  exact this
theorem vJ {α:Type} [DecidableEq α] (knd:PySem.KeyKind M.prog M.w α) (k:α) (a:AV) (f:∀d e,mP M p d e->kk e.1=kk a->(∃k',knd.is k' d.key=true/\d.hash=knd.hash k')/\knd.is k d.key=i8 e.1 a):
  ∀{ds:List DictEntry} {es:List (AV × AV)},L2 (mP M p) ds es->(∀e∈es,kk e.1=kk a)->(ds.findIdx? λd=>knd.is k d.key)=gB a es/\∀d∈ds,∃k',knd.is k' d.key=true/\d.hash=knd.hash k':=by
 intro ds es l
 induction l with
 | nil=>exact λzz=>⟨rfl,λzz h=>(aaU h).elim⟩
 | cons x l ih=>
  intro g
  replace ih:=ih λe he=>g e (.tail _ he)
  have z:=f _ _ x (g _ (.head _))
  refine ⟨?_,λd hd=>(aaH.mp hd).elim (λe=>e▸z.1) (ih.2 d)⟩
  rw [List.findIdx?_cons,iE,ih.1,z.2]
  cases i8 _ a<;>rfl
theorem zU {α:Type} (f:α->Bool) (a:Array α):a.findIdx? f=a.toList.findIdx? f:=by cases a;exact List.findIdx?_toArray ..
theorem Ke {M:Mo}:∀{ds:List DictEntry} {es:List (AV × AV)},L2 (mP M p) ds es->(∀e∈es,kk e.1=3)->
  ∃xs:List (List Int × Addr × Value),ds=xs.map (entryOfKey (tupleKind (intKind M.prog M.w)))/\(∀x∈xs,(tupleKind (intKind M.prog M.w)).is p.h x.1 x.2.1)/\es.map (·.1)=xs.map λx=>AV.tup (x.1.map .int):=by
 intro ds es l
 induction l with
 | nil=>exact λzz=>⟨[],rfl,λzz hx=>(aaU hx).elim,rfl⟩
 | @cons d eb _ _ a l ih=>
  obtain ⟨_,b⟩:=eb
  intro g
  refine cU (ih λe he=>g e (.tail _ he)) λxs h1 h2 h3=>?_
  refine wV (xM (g _ (.head _))) λis e0=>?_;subst e0
  refine aw (xU (M:=M) a.key) λx e hx=>?_
  refine ⟨(is,x,d.val)::xs,?_,λy hy=>(aaH.mp hy).elim (λe=>e▸hx) (h2 y),by rw [aa4,aa4,h3]⟩
  rw [aa4,<-h1]
  refine congrArg (· ::_) ?_
  show d=⟨tupleKeyHash _ is,.ref x,d.val⟩
  rw [<-e,<-(a.hash.trans (tG ..))]
theorem GT {a b:List Int} (h:a.map AV.int=b.map AV.int):a=b:=(List.map_inj_right (λx y h=>AV.int.inj h)).mp h
theorem Db (k:AV) (es:List (AV × AV)):gB k es=(es.map (·.1)).findIdx? λa=>i8 a k:=by unfold gB;rw [List.findIdx?_map];rfl
theorem sr (hu:A.units+100 < cLine) {d:Addr} {ds:Array DictEntry} {ep:Nat} {es:List (AV × AV)} (D:j5 M p d ds ep es) {v:Value} {x:AV} (r:VR p v x) (fit:bB x es) {T:Option Nat->Shared->Prop} (hT:T (gB x es) p.s):wpAny M.m A (dictFind d v (vQ M.w.params x)) T bL p.s:=by
 rcases JE x fit.1 with h | h | h
 .obtain ⟨i,rfl⟩:=oE h
  refine wV r λt e0=>?_;subst e0
  have g:=vJ (PySem.strKind M.prog M.w) (Str.ofString i) (.str i) (λd e re hk=>by
   obtain ⟨dh,dk,dv⟩:=d
   obtain ⟨a,b⟩:=e
   obtain ⟨j,rfl⟩:=oE (hk.trans h)
   obtain ⟨⟨t,rfl⟩,_,rfl,_⟩:=re
   exact ⟨⟨Str.ofString j,beq_self_eq_true _,rfl⟩,cC j i⟩) D.l fit.2
  exact wpAny_dictFind_of (knd:=PySem.strKind M.prog M.w) (k:=Str.ofString i) (beq_self_eq_true _) D.at_ rfl (λd hd=>g.2 d (Array.mem_toList_iff.mpr hd)) (by rw [zU,g.1];exact hT)
 .obtain ⟨i,rfl⟩:=te h
  obtain ⟨t,rfl⟩:=r
  have g:=vJ (intKind M.prog M.w) i (.int i) (λd e re hk=>by
   obtain ⟨dh,dk,dv⟩:=d
   obtain ⟨a,b⟩:=e
   obtain ⟨j,rfl⟩:=te (hk.trans h)
   obtain ⟨⟨t,rfl⟩,_,rfl,_⟩:=re
   exact ⟨⟨j,decide_eq_true rfl,rfl⟩,rfl⟩) D.l fit.2
  exact wpAny_dictFind_of (knd:=intKind M.prog M.w) (k:=i) (decide_eq_true rfl) D.at_ rfl (λd hd=>g.2 d (Array.mem_toList_iff.mpr hd)) (by rw [zU,g.1];exact hT)
 .refine wV (xM h) λis e2=>?_;subst e2
  refine bU (xU (M:=M) r) λy e3 hy=>?_;subst e3
  refine cU (Ke D.l λe he=>(fit.2 e he).trans h) λxs h1 h2 h3=>?_
  have nd:(xs.map (·.1)).Nodup:=by
   have:=D.nd
   rw [h3,<-Function.comp_def (λl=>AV.tup (List.map AV.int l)) (λx:List Int × Addr × Value=>x.1),<-aa5] at this
   exact List.Pairwise.of_map _ (λa b q e=>q (e▸rfl)) this
  have idx:gB (.tup (is.map .int)) es=xs.findIdx? λx=>decide (x.1=is):=by
   rw [Db,h3,List.findIdx?_map]
   refine congrArg (λf=>xs.findIdx? f) (funext λz=>?_)
   by_cases q:z.1=is
   .rw [decide_eq_true q,<-q];exact ph _
   .rw [decide_eq_false q];exact xv λe=>q (GT (AV.tup.inj e))
  replace hT:=(idx)▸hT
  rw [tG (M:=M)]
  refine wpAny_dictFind_heap (knd:=tupleKind (intKind M.prog M.w)) (k:=is) (aaz (aaM _ _) hu) hy D.at_ rfl h1 h2 nd (λW4=>?_) λj q hj=>?_
  .have:xs.findIdx? (λx=>decide (x.1=is))=none:=List.findIdx?_eq_none_iff.mpr λy hy=>decide_eq_false λq=>(List.mem_iff_getElem?.mp hy).elim λj hj=>W4 j y.2 (by rw [hj,<-q])
   rw [this] at hT;exact hT
  .have:xs.findIdx? (λx=>decide (x.1=is))=some j:=by
    rw [List.findIdx?_eq_some_iff_getElem]
    refine uh (aaZ.mp hj) λhl he=>?_
    refine ⟨hl,by rw [he];exact decide_eq_true rfl,λi hi q=>?_⟩
    have il:=aaA hi hl
    exact absurd (idxH_unique nd (by rw [aaR il,<-of_decide_eq_true q]) hj) (aaJ hi)
   rw [this] at hT;exact hT
end
section
variable {M:Mo} {k:Nat} {A:Around} {p p':Pt} {sc:Scope} {env:Env} {loc:Loc} {Q:KV} {T:Value->Shared->Prop} {x y z:X} {e f g:Expr} {q q':Pos}
theorem rE {n m l:Nat} (h:n+m < l) (q:0 < m):n+1+(m - 1) < l:=by
 have:n+1+(m - 1)=n+m:=by rw [aa9,abg 1,Nat.sub_add_cancel q]
 exact this▸h
theorem vu {n m l:Nat} (h:n+m < l):n < l:=aaz (aaM _ _) h
theorem MF {ds:Array DictEntry} {n:Nat} {es:List (AV × AV)} {d:Addr} (D:j5 M p d ds n es):p.s.TypeIs (.ref d) "dict":=⟨_,D.at_,rfl⟩
theorem tm (hu:A.units+100 < cLine) {d:Addr} {ds:Array DictEntry} {ep:Nat} {es:List (AV × AV)} (D:j5 M p d ds ep es) {v:Value} {x:AV} (r:VR p v x) (fit:bB x es) {T:Option Value->Shared->Prop}
  (hT:∀o t,(match o with
   | some u=>∃y,getD x es=some y/\VR p u y
   | none=>getD x es=none)->T o (p.at p.h t).s):wpAny M.m A (dictGet d v) T bL p.s:=by
 unfold dictGet
 try with_reducible refine wpAny_holding ?_
 refine wpAny_bind (yV (vu hu) r fit.1 λt=>wpAny_bind (sr (p:=p.at p.h t) hu (D.mono (.grow λzz zz e zz=>e) λzz e=>e) (r.mono (.grow λzz zz e zz=>e)) fit ?_))
 have e:=oS x es
 cases q:gB x es with
 | none=>
  rw [q] at e
  exact wpAny_pure (hT .none t e)
 | some i=>
  rw [q] at e
  refine uh (yM q) λb hb=>?_
  refine aw (D.l.get hb) λa ha ra=>?_
  rw [abh] at ha
  refine wpAny_bind (wpAny_dictEntries (s:=(p.at p.h t).s) D.at_ rfl ?_)
  exact (ha)▸wpAny_pure (hT (some a.val) t ⟨b.2,by rw [e,Option.bind_some,hb];rfl,ra.val⟩)
theorem kQ (W:Wd M) (R:Rep M p) {a:Nat} (ha:a < p.n) (hn:(p.H.g a).qt=false):(p.W.ρ a==sysModules)=false:=
 bF W.top λzz zz zz zz t=>beq_eq_false_iff_ne.mpr λe=>aaP.mpr (e▸(R.lo a ha hn).1) (aaA (by decide) t.g.lt)
theorem fF {o:AO} {es:List (AV × AV)} (e:o= .dict es):o.qt=false:=e▸rfl
theorem tt {o:AO} {es:List AV} (e:o= .list es):o.qt=false:=e▸rfl
theorem Iv {o:AO} {c:String} {es:List (String × AV)} (e:o= .inst c es):o.qt=false:=e▸rfl
theorem SU (W:Wd M) (hu:A.units+102 < cLine) (R:Rep M p) {a:Nat} (ha:a < p.n) {es:List (AV × AV)} (e:p.H.g a= .dict es) {v:Value} {x:AV} (r:VR p v x) (fit:bB x es) {T:Bool->Shared->Prop} (hT:∀t,T (getD x es).isSome (p.at p.h t).s):
  wpAny M.m A (contains (.ref (p.W.ρ a)) v) T bL p.s:=by
 refine ga (cF R ha e) λzz ds ep D=>?_
 have ty:=MF D
 unfold contains
 try with_reducible refine wpAny_holding ?_
 refine wpAny_bind (wpAny_specialOf ty slot_dict_contains.lookup ?_)
 refine mz (by rw [beq_builtin_none];exact aaE) ?_
 refine wpAny_bind (wpAny_callSpecialUnlessNone?_slot (name:=Str.ofString "__contains__") ty slot_dict_contains (wpAny_call_entry slot_dict_contains ty entry_dict_contains ?_ (args_dict_contains _ _)))
 show wpAny _ _ (dictGet (p.W.ρ a) v >>= _) _ _ p.s
 refine wpAny_bind (tm (aaz (aba _) (rE hu (by decide))) D r fit λo t h=>?_)
 have hT:=hT t
 cases o with
 | some u=>
  refine aw h λy h zz=>?_
  rw [h] at hT
  exact wpAny_pure ⟨_,rfl,wpAny_truthy_bool hT⟩
 | none=>
  rw [show getD x es=none from h] at hT
  exact wpAny_bind (wpAny_pendingKey_other (kQ W R ha (fF e)) (wpAny_pure ⟨_,rfl,wpAny_truthy_bool hT⟩))
theorem wC (hu:A.units+102 < cLine) (R:Rep M p) {a:Nat} (ha:a < p.n) {es:List (AV × AV)} (e:p.H.g a= .dict es) {v:Value} {x y:AV} (r:VR p v x) (fit:bB x es) (hy:getD x es=some y) (hT:∀u t,VR p u y->T u (p.at p.h t).s):
  wpAny M.m A (getItem (.ref (p.W.ρ a)) v) T bL p.s:=by
 refine ga (cF R ha e) λzz ds ep D=>?_
 have ty:=MF D
 unfold getItem
 try with_reducible refine wpAny_holding ?_
 refine wpAny_bind (wpAny_sequenceKey ty (by decide) (wpAny_bind (wpAny_callSpecial?_slot (name:=Str.ofString "__getitem__") ty slot_dict_getitem (wpAny_call_entry slot_dict_getitem ty entry_dict_getitem ?_ (args_dict_getitem _ _)))))
 show wpAny _ _ (dictGet (p.W.ρ a) v >>= _) _ _ p.s
 refine wpAny_bind (tm (aaz (aba _) (rE hu (by decide))) D r fit λo t h=>?_)
 cases o with
 | some u=>
  refine aw h λz h ru=>?_
  obtain rfl:=aay (hy.symm.trans h)
  exact wpAny_pure ⟨u,rfl,wpAny_pure (hT u t ru)⟩
 | none=>cases hy.symm.trans h
theorem Mp {t:String}:∀{vs:List Value} {xs:List AV},L2 (VR p) vs xs->xs.all AV.oP=true->(vs.any λv=>Value.isStrOf (Str.ofString t) v)=xs.any (i8 (.str t))/\∀v∈vs,∃s t,v= .str s t:=by
 intro vs xs l
 induction l with
 | nil=>exact λzz=>⟨rfl,λzz h=>(aaU h).elim⟩
 | @cons v a _ _ r l ih=>
  intro h
  have h:=aaV.mp h
  replace ih:=ih h.2
  cases a with
  | str s=>
   obtain ⟨u,rfl⟩:=r
   refine ⟨?_,λv hv=>(aaH.mp hv).elim (λe=>(bH _ _ e)) (ih.2 v)⟩
   rw [List.any_cons,List.any_cons,ih.1]
   refine congrArg (· ||_) ((cC s t).trans ?_)
   exact decide_eq_decide.mpr ⟨Eq.symm,Eq.symm⟩
  | _=>exact Bool.noConfusion h.1
theorem Jf {x:AV} (h:x.oP=true):∃s,x= .str s:=by
 cases x with
 | str s=>exact ⟨s,rfl⟩
 | _=>exact (aaE h).elim
theorem Jw (W:Wd M) (hu:A.units+102 < cLine) (R:Rep M p) {v l:Value} {x y:AV} (r:VR p v x) (rl:VR p l y) {F:Bool->Prop} (n:Bool) (hq:TC x y p.H λt=>F (n ^^ t)) (hT:∀b t,F b->T (.bool b) (p.at p.h t).s):wpAny M.m A (compareOp (bif n then .NotIn else .In) v l) T bL p.s:=by
 cases y with
 | ref a=>
  obtain ⟨rfl,la⟩:=rl
  refine cU (tC hq.run) λes e fit hf=>?_
  have main:wpAny M.m A (contains (.ref (p.W.ρ a)) v) (λb s'=>T (.bool (n ^^ b)) s') bL p.s:=SU W hu R la e r fit λt=>hT _ t (cg (F:=λt=>F (n ^^ t)) hf)
  cases n
  .exact wpAny_bind (wpAny_mono main (λb s' h=>wpAny_pure (by rw [Bool.false_xor] at h;exact h)) λzz zz x=>x)
  .exact wpAny_bind (wpAny_mono main (λb s' h=>wpAny_pure (by rw [Bool.true_xor] at h;exact h)) λzz zz x=>x)
 | tup xs=>
  refine qk (fu hq) λhs hf=>?_
  have hs:=aaV.mp hs
  refine wV (Jf hs.1) λs e0=>?_;subst e0
  obtain ⟨u,rfl⟩:=r
  refine aS rl.tup λo vs e1 it hr=>?_;subst e1
  have g:=Mp (t:=s) hr hs.2
  have he:∀y,y∈vs->EqAt A.in1 p.s y (.str (Str.ofString s) u) (Value.isStrOf (Str.ofString s) y):=λy hy=>by
   refine aq (g.2 y (Array.mem_toList_iff.mpr hy)) λa b e2=>?_;subst e2
   exact EqAt.str_str a b (Str.ofString s) u
  have h:=hT _ p.s.toks (cg (F:=λt=>F (n ^^ t)) hf)
  rw [<-g.1,Array.any_toList] at h
  cases n
  .rw [Bool.false_xor] at h
   exact in_tupleAt (λv=>Value.isStrOf (Str.ofString s) v) it he h
  .rw [Bool.true_xor] at h
   exact notIn_tupleAt (λv=>Value.isStrOf (Str.ofString s) v) it he h
 | _=>exact hq.elim
theorem zd (W:Wd M) (hu:A.units+102 < cLine) (R:Rep M p) {o:lU} {op:CmpOp} (ho:o3 op=some o) {v u:Value} {x y:AV} (r:VR p v x) (ru:VR p u y) {F:Bool->Prop} (hq:LV o x y p.H F) (hT:∀b t,F b->T (.bool b) (p.at p.h t).s):
  wpAny M.m A (compareOp op v u) T bL p.s:=by
 have u0:A.units+100 < cLine:=aaz (abj (by decide) _) hu
 have Gv:=λb h=>hT b p.s.toks h
 cases op with
 | Eq=>
  obtain rfl:=aay ho
  refine cU (Oo u0 R r ru hq) λt h g zz=>?_
  exact g _ _ _ _ (Gv t h)
 | NotEq=>
  obtain rfl:=aay ho
  refine cU (Oo u0 R r ru hq) λt h zz g=>?_
  exact g _ _ _ _ (Gv _ h)
 | In=>obtain rfl:=aay ho;exact Jw W hu R r ru false (by rw [show (λt=>F (false ^^ t))=F from funext λt=>by rw [Bool.false_xor]];exact hq) hT
 | NotIn=>obtain rfl:=aay ho;exact Jw W hu R r ru true (by rw [show (λt=>F (true ^^ t))=kN F from funext λt=>by rw [Bool.true_xor];rfl];exact hq) hT
 | Lt=>
  cases ho
  obtain ⟨i,rfl,h⟩:=aG hq
  obtain ⟨j,rfl,h⟩:=aG h
  obtain ⟨t,rfl⟩:=r;obtain ⟨t',rfl⟩:=ru
  exact PyProof.Rows.lt_int (Gv _ (cg h))
 | LtE=>
  cases ho
  obtain ⟨i,rfl,h⟩:=aG hq
  obtain ⟨j,rfl,h⟩:=aG h
  obtain ⟨t,rfl⟩:=r;obtain ⟨t',rfl⟩:=ru
  exact PyProof.Rows.le_int (Gv _ (cg h))
 | Gt=>
  cases ho
  obtain ⟨i,rfl,h⟩:=aG hq
  obtain ⟨j,rfl,h⟩:=aG h
  obtain ⟨t,rfl⟩:=r;obtain ⟨t',rfl⟩:=ru
  exact PyProof.Rows.gt_int (Gv _ (cg h))
 | _=>cases ho
theorem Qp {b:Bool} {H:HP} {F:KB} (h:cP (.bool b) H F):F b H:=(tT (FB:=kB F H) b).mp h
theorem Tr.bool {H:HP} (b:Bool):Tr (.bool b) H b:=λF h=>Qp h
theorem lT {op:CmpOp} (h:bh e=true):behindInMarks op e=false:=by
 cases e<;>first | rfl | exact absurd h aaE
theorem GF (W:Wd M) {o:lU} {op:CmpOp} (ho:o3 op=some o) (hm:bh f=true) (h1:aA M x sc e) (h2:aA M y sc f):aA M (X.cmp o x y) sc (.Compare e [op] [f] q):=λ{zz zz zz env zz zz} z hq=>.eq (arm_eval_Compare ..) λT hT=>wpAny_bind (h1 z hq _ λp1 v av q1 r a=>by
 show wpAny _ _ (compareChain q v [op] [markedBehindIn op f (eval f env)]) _ _ _
 rw [markedBehindIn_of_false (lT hm)]
 exact wpAny_bind (wpAny_holding (h2 (z.after a) q1 _ λp2 u bv q2 r2 b=>wpAny_bind (wpAny_standAt (wpAny_operate' (zd W z.cx.room b.rep ho (b.rel r) r2 q2 λc t hc=>hT (p2.at p2.h t) _ (.bool c) hc rfl ((a.trans b).trans (.toks b.rep t))))))))
theorem Ep (W:Wd M) {o:lU} {op:CmpOp} (ho:o3 op=some o) (hm:bh f=true) (h1:aA M x sc e) (h2:aA M y sc f):d6 M (X.cmp o x y) sc (.Compare e [op] [f] q):=λz hq T hT=>wpAny_isTrue_Compare1 (h1 z hq _ λp1 v av q1 r a=>
 h2 (z.after a) q1 _ λp2 u bv q2 r2 b=>zd W z.cx.room b.rep ho (b.rel r) r2 q2 λc t hc=>wpAny_truthy_bool (hT (p2.at p2.h t) (.bool c) c (.bool c) (Qp hc) ((a.trans b).trans (.toks b.rep t)))) (lT hm)
theorem Bo (W:Wd M) {o1 o2:lU} {p1 p2:CmpOp} (GM:o3 p1=some o1) (Tm:o3 p2=some o2) (hm:bh g=true) (h1:aA M x sc e) (h2:aA M y sc f) (h3:aA M z sc g):d6 M (X.HJ o1 o2 x y z) sc (.Compare e [p1,p2] [f,g] q):=by
 intro k A p env loc F z hq T hT
 refine be (arm_isTrue_Compare ..) ?_
 refine wpAny_bind (h1 z hq _ λs1 v av q1 r a=>?_)
 show wpAny _ _ (testChain q v [p1,p2] [eval f env,markedBehindIn p2 g (eval g env)]) _ _ _
 rw [markedBehindIn_of_false (lT hm)]
 refine wpAny_bind (wpAny_holding (h2 (z.after a) q1 _ λs2 u bv q2 r2 b=>wpAny_bind (wpAny_standAt (wpAny_bind (wpAny_holding (zd W z.cx.room b.rep GM (b.rel r) r2 q2 λc t hc=>wpAny_bind (wpAny_release' (wpAny_bind (wpAny_holding (wpAny_truthy_bool ?_))))))))))
 have a3:=(a.trans b).trans (.toks b.rep t)
 cases c
 .exact wpAny_pure (hT (s2.at s2.h t) (.bool false) false (.bool false) (Qp hc) a3)
 .exact wpAny_bind (wpAny_holding (h3 (p:=s2.at s2.h t) (z.after a3) hc _ λs3 w cv q3 r3 c=>wpAny_bind (wpAny_standAt (wpAny_bind (wpAny_operate' (zd W z.cx.room c.rep Tm (c.rel ((After.toks b.rep t:After M c6 s2 _).rel r2)) r3 q3 λd t hd=>wpAny_holding (wpAny_truthy_bool (hT (s3.at s3.h t) (.bool d) d (.bool d) (Qp hd) ((a3.trans c).trans (.toks c.rep t))))))))))
theorem FE {v:Value} {av:AV} (r:VR p v av):(v==Value.none)=av.isNone:=by
 cases av with
 | none=>obtain rfl:=show v= .none from r;rfl
 | bool=>obtain rfl:=show v= .bool _ from r;rfl
 | unset=>exact r.elim
 | tup=>refine c4 r λzz zz e0 zz=>?_;subst e0;rfl
 | ref=>obtain ⟨rfl,_⟩:=r;rfl
 | _=>obtain ⟨_,rfl⟩:=r;rfl
theorem mw {op:CmpOp} {c:Nat} {q:Pos}:behindInMarks op (.Constant .none c q)=false:=rfl
theorem zK (n:Bool) {v:Value} {av:AV} (r:VR p v av) {F:KB} (hq:qg (bif n then !av.isNone else av.isNone) λt=>F t p.H) (hT:∀b,F b p.H->T (.bool b) p.s):wpAny M.m A (compareOp (bif n then .IsNot else .Is) v .none) T bL p.s:=by
 have h:=hT _ (cg hq)
 rw [<-FE r] at h
 cases n
 .exact is_none_gen h
 .exact isnot_none_gen h
theorem GP (n:Bool) {c:Nat} (h:aA M x sc e):aA M (bif n then X.bJ x else X.isNone x) sc (.Compare e [bif n then .IsNot else .Is] [.Constant .none c q'] q):=λ{zz zz zz env zz Q} z hq=>.eq (arm_eval_Compare ..) λT hT=>
 wpAny_bind (h (Q:=λav H=>qg (bif n then !av.isNone else av.isNone) (Ow Q H)) z (by cases n<;>exact hq) _ λp1 v av q1 r a=>by
 show wpAny _ _ (compareChain q v [_] [markedBehindIn _ _ (eval _ env)]) _ _ _
 rw [markedBehindIn_of_false mw]
 exact wpAny_bind (wpAny_holding (wpAny_pure (wpAny_bind (wpAny_standAt (wpAny_operate' (zK (F:=λb H=>Q (.bool b) H) n r q1 λb hb=>hT p1 _ (.bool b) hb rfl a)))))))
theorem DG (n:Bool) {c:Nat} (h:aA M x sc e):d6 M (bif n then X.bJ x else X.isNone x) sc (.Compare e [bif n then .IsNot else .Is] [.Constant .none c q'] q):=λ{zz zz zz zz zz F} z hq T hT=>wpAny_isTrue_Compare1
 (h (Q:=λav H=>qg (bif n then !av.isNone else av.isNone) λb=>cP (.bool b) H (F (.bool b))) z (by cases n<;>exact hq) _ λp1 v av q1 r a=>wpAny_pure (zK (F:=λb H=>cP (.bool b) H (F (.bool b))) n r q1 λb hb=>wpAny_truthy_bool (hT p1 (.bool b) b (.bool b) (Qp hb) a))) mw
end
section
variable {M:Mo} {k:Nat} {A:Around} {p p':Pt} {sc:Scope} {env:Env} {loc:Loc} {Q:KV} {T:Value->Shared->Prop} {x y z:X} {e f g:Expr} {q q':Pos}
theorem lN {s:Expr} (h:bh s=true) (o i:Value):subscripted s false o i=operate [o,i] (getItem o i):=by
 cases s<;>first | rfl | exact absurd h aaE
theorem kG {j:Int} (h:qF j=true):∃n:Nat,j=n:=match j,h with
 | .ofNat n,_=>⟨n,rfl⟩
theorem LI {j:Int} (h:U7 j=true):∃n:Nat,j=n:=match j,h with
 | .ofNat n,_=>⟨n,rfl⟩
theorem sW {α:Type} {l:List α} {i:Nat} {a:α} (h:l[i]? =some a):i < l.length:=(aaZ.mp h).1
theorem QI (hu:A.units+102 < cLine) (R:Rep M p) {e f:Expr} {v u:Value} {x y:AV} (r:VR p v x) (ru:VR p u y) (hp:bh f=true) {F:AV->Prop} (hq:Qs x y p.H F) (hT:∀v z t,F z->VR p v z->T v (p.at p.h t).s):wpAny M.m A (subscriptTail e f v u) T bL p.s:=by
 cases x with
 | tup xs=>
  obtain ⟨j,rfl,hq⟩:=aG hq
  obtain ⟨hj,hq⟩:=fu hq
  refine wV (LI hj) λn e0=>?_;subst e0
  refine aw (bE hq) λz hz hf=>?_
  refine wV ru λt e1=>?_;subst e1
  refine aS r.tup λa vs e2 it hr=>?_;subst e2
  refine aw (hr.get hz) λv' N6 rv=>?_
  have lt:n < vs.size:=by rw [aB hr];exact sW hz
  refine tail_any it.typeIs slot_tuple_getitem.lookup (getItem_tuple it (j:=n) (abd (by decide: -(2 ^ 63)<=(0:Int)) (aa0 n)) (Int.lt_trans (abA.mpr (Nat.blt_eq.mp hj)) (by decide:((1000000:Nat):Int) < 2 ^ 63)) ?_ (by rw [abh] at N6;exact N6) (hT v' z p.s.toks hf rv)) (lN hp _ _)
  unfold seqIndex?
  rw [if_neg (Int.not_lt.mpr (aa0 n))]
  exact if_pos (aaV.mpr ⟨decide_eq_true (aa0 n),decide_eq_true (abA.mpr lt)⟩)
 | ref a=>
  obtain ⟨rfl,la⟩:=r
  have h:=hq.run
  cases e:p.H.g a with
  | list xs=>
   replace h:=(e)▸h
   refine bU (aG h) λj e3 h=>?_;subst e3
   obtain ⟨hj,h⟩:=fu h
   refine wV (kG hj) λn e4=>?_;subst e4
   refine aw (bE h) λz hz hf=>?_
   obtain ⟨t,rfl⟩:=ru
   refine aq (aK R la e) λvs k1 l=>?_
   refine aw (l.l.get hz) λv' N6 rv=>?_
   exact tail_any (cj l.at_).typeIs slot_list_getitem.lookup (wpAny_getItem_list (cj l.at_) (aa0 n) (Int.lt_trans (abA.mpr (sW hz)) (rV l.len)) (by rw [abh] at N6;exact N6) (hT v' z p.s.toks hf rv)) (lN hp _ _)
  | dict es=>
   replace h:=(e)▸h
   refine qk h λfit h=>?_
   refine aw (bE h) λz hz hf=>?_
   refine ga (cF R la e) λzz ds ep D=>?_
   exact tail_any (MF D) slot_dict_getitem.lookup (wC hu R la e ru fit hz λu t ru=>hT u z t hf ru) (lN hp _ _)
  | _=>replace h:=(e)▸h;exact h.elim
 | _=>exact hq.elim
theorem IA (hp:bh f=true) (h1:aA M x sc e) (h2:aA M y sc f):aA M (X.idx x y) sc (.Subscript e f q):=λz hq T hT=>Subscript_ (h1 z hq _ λp1 v av q1 r a=>
 h2 (z.after a) q1 _ λp2 u bv q2 r2 b=>QI z.cx.room b.rep (b.rel r) r2 hp q2 λv y t hy ry=>hT (p2.at p2.h t) v y hy ((After.toks b.rep t:After M c6 p2 _).rel ry) ((a.trans b).trans (.toks b.rep t)))
theorem gD {o:Expr} {n:Str} {whole:Sem Value} (h:cw o=true):attributeBase o n env whole=whole:=by
 cases o with
 | Call f as kw p=>
  cases f with
  | Name=>cases as<;>cases kw<;>first | rfl | exact absurd h aaE
  | _=>rfl
 | _=>rfl
theorem IH {f:String} {v:AV}:∀{ds:List DictEntry} {fs:List (String × AV)},L2 (vS p) ds fs->tp f fs=some v->∃u,getL (Str.ofString f) ds=some (some u)/\VR p u v:=by
 intro ds fs l
 induction l with
 | nil=>exact λe=>(nn e).elim
 | @cons d mu l _ a b ih=>
  obtain ⟨m,u⟩:=mu
  intro e
  obtain ⟨t,ht⟩:=a.key
  have hs:d.key.isStr (Str.ofString f)=(m==f):=by rw [ht];exact cC m f
  have e:(bif m==f then some u else tp f _)=some v:=e
  cases q:m==f with
  | true=>
   rw [q] at e hs
   obtain rfl:=aay e
   exact ⟨d.val,by unfold getL;rw [List.find?_cons,hs],a.val⟩
  | false=>
   rw [q] at e hs
   refine aw (ih e) λz h1 h2=>?_
   refine ⟨z,?_,h2⟩
   unfold getL at h1 ⊢
   rw [List.find?_cons,hs]
   cases w:l.find? λx=>x.key.isStr (Str.ofString f) with
   | some e'=>rw [w] at h1;exact h1
   | none=>replace h1:=(w)▸h1;replace h1:(if (l.any λx=>x.refKey)=true then none else some none)=some (some z):=h1;exact absurd h1 (by split<;>simp)
theorem VR.handed {v:Value} {x:AV} (r:VR p v x):handedIn v=true:=by
 cases x with
 | none=>obtain rfl:=show v= .none from r;rfl
 | bool=>obtain rfl:=show v= .bool _ from r;rfl
 | unset=>exact r.elim
 | tup=>refine c4 r λzz zz e0 zz=>?_;subst e0;rfl
 | ref=>obtain ⟨rfl,_⟩:=r;rfl
 | _=>obtain ⟨_,rfl⟩:=r;rfl
theorem Gd {C:Addr} (h:Jj M.K C) {f:String} (hf:f∈gg):findIn M.K (.ref C) (Str.ofString f)=some none/\takerIn M.K C (Str.ofString f)=some none:=(aaV.mp (aaX.mp h.fld f hf)).imp beq_iff_eq.mp beq_iff_eq.mp
theorem Pc (W:Wd M) (R:Rep M p) {f:String} (hf:f∈gg) {v:Value} {x:AV} (r:VR p v x) {F:AV->Prop} (hq:Qx x f p.H F) {expr:Bool} (hT:∀v z t,F z->VR p v z->T v (p.at p.h t).s):wpAny M.m A (getAttr v (Str.ofString f) expr) T bL p.s:=by
 refine bU (bK hq) λa e0 h=>?_;subst e0
 obtain ⟨rfl,la⟩:=r
 refine c4 (zE h.run) λc fs e h=>?_
 refine aw (bE h) λz hz Ye=>?_
 refine bj (nj R la e) λC ds k1 i=>?_
 have ok:=W.ok.cls c C i.ca
 refine aw (IH i.l hz) λu hu ru=>?_
 exact get_value (W.X.keeps R.base) (⟨i.at_,rfl,rfl,i.dat⟩) (plainGet_of ok.get).1 (findObj_own ok.dict (Gd ok hf).1 rfl (by rw [lookIn_dict];exact hu)) ru.handed (hT u z _ Ye ru)
theorem Hh (W:Wd M) {f:String} (hf:f∈gg) (hn:cw e=true) (h1:aA M x sc e):aA M (X.fld x f) sc (.Attribute e (Str.ofString f) q):=λ{zz zz zz env zz zz} z hq=>.eq (arm_eval_Attribute ..) λT hT=>by
 exact (gD hn)▸wpAny_bind (h1 z hq _ λp1 v av q1 r a=>wpAny_bind (wpAny_standAt (wpAny_bind (wpAny_holding (Pc W a.rep hf r q1 λv y t hy ry=>wpAny_bind (wpAny_letTemporaryGo (wpAny_pure (hT (p1.at p1.h t) v y hy ((After.toks a.rep t:After M c6 p1 _).rel ry) (a.trans (.toks a.rep t))))))))))
end
section
variable {M:Mo} {k:Nat} {A:Around} {p p':Pt} {sc:Scope} {env:Env} {loc:Loc} {Q:KV} {T:Value->Shared->Prop} {x y z:X} {e f g:Expr} {q q':Pos}
theorem rD:∀{vs:List Value} {xs:List AV},DT vs xs=true->L2 (VR p) vs xs
 | [],[],_=>.nil
 | [],_::_,h=>Bool.noConfusion h
 | v::r,xs,h=>by
  cases v with
  | str s t=>
   cases xs with
   | nil=>exact absurd h aaE
   | cons b xs=>
    cases b with
    | str u=>
     have h:=aaV.mp h
     exact .cons ⟨t,by rw [beq_iff_eq.mp h.1]⟩ (rD h.2)
    | _=>exact absurd h aaE
  | _=>exact absurd h aaE
theorem oa {α:Type} {o:Option α} {f:α->Bool} (h:o.any f=true):∃x,o=some x/\f x=true:=match o,h with
 | some x,h=>⟨x,rfl,h⟩
theorem kM {d:Data} {l:List Value} (h:LG d=some l):∃vs n,d= .seq vs n/\l=vs.toList:=by
 cases d with
 | seq vs n=>exact (bH vs n ⟨rfl,(aay h).symm⟩)
 | _=>cases h
theorem bx {α β:Type} [BEq α] [LawfulBEq α] {a:α} {b:β}:∀{l:List (α × β)},l.lookup a=some b->(a,b)∈l
 | [],h=>nomatch h
 | (x,y)::r,h=>by
  rw [List.lookup_cons] at h
  cases q:a==x<;>rw [q] at h
  .exact .tail _ (bx h)
  .obtain rfl:=aay h
   rw [beq_iff_eq.mp q]
   exact .head _
theorem F5 (W:Wd M) (R:Rep M p) {x:String} {v:AV} (hv:Je.lookup x=some v):∃u,nsIn M.K mainGlobals (Str.ofString x)=some (some u)/\VR p u v:=by
 have h:=aaX.mp W.ok.Aq _ (bx hv)
 unfold yT at h
 dsimp only at h
 clear hv;cases q:nsIn M.K mainGlobals (Str.ofString x) with
 | none=>rw [q] at h;exact absurd h aaE
 | some o=>
  replace h:=(q)▸h
  clear q;cases o with
  | none=>exact absurd h aaE
  | some u=>
   refine ⟨u,rfl,?_⟩
   cases v with
   | int i=>
    cases u with
    | int j t=>exact (of_decide_eq_true h)▸⟨t,rfl⟩
    | _=>exact absurd h aaE
   | tup xs=>
    cases u with
    | ref a=>
     refine aw (oa h) λo ho h=>?_
     have h:=aaV.mp h
     refine aw (oa h.2) λl hl h2=>?_
     refine JO (kM hl) λvs n hd e0=>?_;subst e0
     exact .rO ⟨o,(W.X.keeps R.base) _ _ ho,beq_iff_eq.mp h.1,n,hd⟩ (rD h2)
    | _=>exact absurd h aaE
   | _=>exact absurd h aaE
theorem Ec (W:Wd M) {n:Str} {x:String} (hg:aU sc n=true) (hx:iW Jm n=some x):aA M (X.glob x) sc (.Name n q):=λ{zz zz p zz zz zz} z hq T hT=>
 (bE hq).elim λv h=>(F5 W z.rep h.1).elim λu s=>eR W z.eo z.rep hg (((cD hx).1)▸s.1) (hT p u v h.2 s.2 (.refl z.rep))
theorem Fp {i:Int} (h: -1000000000 < i/\i < 1000000000):Builtin.Int.intBits i<=64:=intBits_le_64 (Int.lt_trans (by decide) h.1) (Int.lt_trans h.2 (by decide))
theorem ED {vs:Array Value} {xs:List AV} (l:L2 (VR p) vs.toList xs) (h:vs.isEmpty=true):xs=[]:=List.eq_nil_of_length_eq_zero ((aB l).symm.trans (Array.isEmpty_iff_size_eq_zero.mp h))
theorem OJ (R:Rep M p) {o:xx} {op:Operator} (ho:LP op=some o) {v u:Value} {x y:AV} (r:VR p v x) (ru:VR p u y) (hq:NB o x y p.H Q):Ev M A p (binaryOp op v u) Q:=λT hT=>by
 have int:=λi t h=>hT (p.at p.h t) (.int i p.s.toks) (.int i) h ⟨_,rfl⟩ (.toks R t)
 cases op with
 | Add=>
  obtain rfl:=aay ho
  cases x with
  | int i=>
   obtain ⟨j,rfl,h⟩:=aG hq
   obtain ⟨t,rfl⟩:=r;obtain ⟨t',rfl⟩:=ru
   exact PyProof.Rows.add_int (int _ _ h)
  | tup xs=>
   refine E7 (y9 hq) λys e0 hz h=>?_;subst e0
   refine aS r.tup λa vs e1 t0 l1=>?_;subst e1;obtain ⟨⟨_,dd,_,sl⟩,i1,rfl,n,rfl⟩:=t0
   refine aS ru.tup λb us e2 t1 l2=>?_;subst e2;obtain ⟨⟨_,SR,_,UA⟩,i2,rfl,n2,rfl⟩:=t1
   by_cases hv:vs.isEmpty=true
   .obtain rfl:=ED l1 hv
    exact concat_meets ⟨_,i1,rfl⟩ ⟨_,i2,rfl⟩ noFill_tuple_add seq_tuple_add PySem.F.slot_tuple_add PySem.F.entry_tuple_add (PySem.F.args_tuple_add_2 _ _) (tuple_addW0 a b vs us n n2 dd SR sl UA hv) ⟨i1,i2,hT p _ _ h (.rO ⟨_,i2,rfl,_,rfl⟩ l2) (.refl R)⟩
   .by_cases hw:us.isEmpty=true
    .obtain rfl:=ED l2 hw
     rw [aaY] at h
     exact concat_meets ⟨_,i1,rfl⟩ ⟨_,i2,rfl⟩ noFill_tuple_add seq_tuple_add PySem.F.slot_tuple_add PySem.F.entry_tuple_add (PySem.F.args_tuple_add_2 _ _) (tuple_addW1 a b vs us n n2 dd SR sl UA hv hw) ⟨i1,i2,hT p _ _ h (.rO ⟨_,i1,rfl,_,rfl⟩ l1) (.refl R)⟩
    .have g:=dJ.push p.h {cls:= .type "tuple",data:= .seq (vs++us)}
     exact concat_meets ⟨_,i1,rfl⟩ ⟨_,i2,rfl⟩ noFill_tuple_add seq_tuple_add PySem.F.slot_tuple_add PySem.F.entry_tuple_add (PySem.F.args_tuple_add_2 _ _) (tuple_addW2 a b vs us n n2 dd SR sl UA hv hw (by rw [aB l1,aB l2];exact cV hz))
      ⟨i1,i2,hT (p.at _ p.s.toks) _ _ h (.rO ⟨_,Heap.get?_push_size _ rfl,rfl,_,rfl⟩ (by rw [Array.toList_append];exact wU.mono (.grow g.tup) (l1.append l2))) (.grow R g)⟩
  | ref a=>
   obtain ⟨rfl,la⟩:=r
   refine aw (bZ hq.run) λxs ea h=>?_
   refine bU (bK h) λb e3 h=>?_;subst e3
   obtain ⟨rfl,lb⟩:=ru
   refine cU (bZ h.run) λys eb hz h=>?_
   refine aq (aK R la ea) λvs n l1=>?_
   refine aq (aK R lb eb) λus n2 l2=>?_
   exact concat_meets ⟨_,l1.at_,rfl⟩ ⟨_,l2.at_,rfl⟩ noFill_list_add seq_list_add PySem.F.slot_list_add PySem.F.entry_list_add (PySem.F.args_list_add_2 _ _) (list_addW _ _ vs us n n2 none none #[] #[] (by rw [aB l1.l,aB l2.l];exact cV hz))
    ⟨l1.at_,l2.at_,iD (t:=p.s.toks) R (by rw [Array.toList_append];exact l1.l.append l2.l) (by rw [aaD];exact hz) h.run hT⟩
  | _=>exact hq.elim
 | Sub=>
  obtain rfl:=aay ho
  obtain ⟨i,rfl,h⟩:=aG hq
  refine bU (aG h) λj e4 h=>?_;subst e4
  obtain ⟨t,rfl⟩:=r;obtain ⟨t',rfl⟩:=ru
  exact PyProof.Rows.sub_int (int _ _ h)
 | Mult=>
  obtain rfl:=aay ho
  obtain ⟨i,rfl,h⟩:=aG hq
  obtain ⟨j,rfl,hb,h⟩:=aG h
  obtain ⟨t,rfl⟩:=r;obtain ⟨t',rfl⟩:=ru
  exact PyProof.Rows.mul_int (int _ _ h) (hb.elim (λh=>.of_right (Fp h)) λh=>.of_left (Fp h))
 | FloorDiv=>
  obtain rfl:=aay ho
  obtain ⟨i,rfl,h⟩:=aG hq
  obtain ⟨j,rfl,hb,h⟩:=aG h
  obtain ⟨t,rfl⟩:=r;obtain ⟨t',rfl⟩:=ru
  exact PyProof.Rows.floordiv_int (Int.ne_of_gt hb.1) (int _ _ h) (.inl (PyProof.noPylong_small (HL (b:=1073741824) (Rf (Int.natAbs_of_nonneg (Int.le_of_lt hb.1)) (Int.lt_trans hb.2 (by decide))))))
 | Mod=>
  obtain rfl:=aay ho
  obtain ⟨i,rfl,h⟩:=aG hq
  obtain ⟨j,rfl,hb,h⟩:=aG h
  obtain ⟨t,rfl⟩:=r;obtain ⟨t',rfl⟩:=ru
  exact PyProof.Rows.mod_int (Int.ne_of_gt hb) (int _ _ h)
 | _=>cases ho
theorem HT {o:xx} {op:Operator} (ho:LP op=some o) (h1:aA M x sc e) (h2:aA M y sc f):aA M (X.bin o x y) sc (.BinOp e op f q):=λz hq=>.eq (arm_eval_BinOp ..) λT hT=>wpAny_bind (h1 z hq _ λp1 v av q1 r a=>wpAny_bind (wpAny_holding
 (h2 (z.after a) q1 _ λp2 u bv q2 r2 b=>wpAny_bind (wpAny_standAt (wpAny_operate' ((OJ b.rep ho (b.rel r) r2 q2).cO (a.trans b) hT))))))
theorem g8 (W:Wd M) {t c:String} {cv:Value} (ht:t∈D5) (hc:c∈gH) (hv:sE M.K c=some cv):kitOne M.K (.type t) cv=some (Rv t c):=by
 have h:=aaX.mp (aaX.mp W.ok.Px t ht) c hc
 rw [hv] at h
 exact beq_iff_eq.mp h
theorem kz {K:Frag} {c:String} {C:Addr} (h:ca K c=some C):b7 K c=some C/\c∈insts:=by
 unfold ca at h
 split at h
 .rename_i q;exact ⟨h,List.contains_iff_mem.mp q⟩
 .exact nomatch h
theorem KW (W:Wd M) (R:Rep M p) {c:String} {cv:Value} (hc:c∈gH) (hv:sE M.K c=some cv) {v:Value} {x:AV} (r:VR p v x) {F:Bool->Prop} (hq:Fz x c p.H F) (hT:∀b t,F b->T (.bool b) (p.at p.h t).s):wpAny M.m A (call (.builtin "isinstance") [v,cv]) T bL p.s:=by
 have X:M.K.In p.h:=W.X.keeps R.base
 cases x with
 | none=>
  obtain rfl:=show v= .none from r
  exact kia_one kitx_none X trivial (g8 W (by decide) hc hv) (λh=>absurd h (by decide)) λt=>hT _ t hq
 | bool b=>
  obtain rfl:=show v= .bool b from r
  exact kia_one kitx_bool X trivial (g8 W (by decide) hc hv) (λh=>nomatch h) λt=>hT _ t (by
   rw [show Rv "bool" c=((c=="bool"||c=="int")||false) from rfl,Bool.or_false];exact hq)
 | int i=>
  obtain ⟨t,rfl⟩:=r
  exact kia_one kitx_int X trivial (g8 W (by decide) hc hv) (λh=>nomatch h) λt=>hT _ t hq
 | str i=>
  obtain ⟨t,rfl⟩:=r
  exact kia_one kitx_str X trivial (g8 W (by decide) hc hv) (λh=>nomatch h) λt=>hT _ t hq
 | bytes i=>
  obtain ⟨t,rfl⟩:=r
  exact kia_one kitx_bytes X trivial (g8 W (by decide) hc hv) (λh=>nomatch h) λt=>hT _ t hq
 | tup i=>
  refine cf r.tup λa vs e0 t0 zz=>?_;subst e0;refine cU t0 λo ho h1 zz=>?_
  exact kia_one kitx_tuple X ⟨_,ho,h1⟩ (g8 W (by decide) hc hv) (λh=>nomatch h) λt=>hT _ t hq
 | ref a=>
  obtain ⟨rfl,la⟩:=r
  have h:=hq.run
  cases e:p.H.g a with
  | list xs=>
   replace h:=(e)▸h
   refine aq (aK R la e) λvs n l=>?_
   exact kia_one kitx_list X ⟨_,l.at_,rfl⟩ (g8 W (by decide) hc hv) (λh=>nomatch h) λt=>hT _ t h
  | dict xs=>
   replace h:=(e)▸h
   refine ga (cF R la e) λzz vs n l=>?_
   exact kia_one kitx_dict X ⟨_,l.at_,rfl⟩ (g8 W (by decide) hc hv) (λh=>nomatch h) λt=>hT _ t h
  | inst d fs=>
   rw [e] at h
   refine bj (nj R la e) λC ds n i=>?_
   have ok:=W.ok.cls d C i.ca
   have kt:=aaX.mp (aaX.mp W.ok.qd d (kz i.ca).2) c hc
   rw [hv,(kz i.ca).1] at kt
   exact kia_one (kitx_own (ox:=⟨.ref C,some (p.W.δ a),.plain,#[]⟩) ok.get ok.dict ok.cls W.ok.HI W.ok.takes ok.mro) X ⟨i.at_,rfl,rfl,i.dat⟩ (beq_iff_eq.mp kt) (λh=>nomatch h) λt=>hT _ t h
  | no _=>replace h:=(e)▸h;exact h.elim
 | unset=>exact hq.elim
theorem r8 {r:Option (Option Value)} {f:Addr} (h:EN r=some f):r=some (some (.ref f)):=by
 cases r with
 | none=>exact (nn h).elim
 | some r=>cases r with
  | none=>exact (nn h).elim
  | some v=>cases v with
   | ref a=>exact congrArg (λa:Addr=>some (some (Value.ref a))) (aay h)
   | _=>exact (nn h).elim
theorem cS {K:Frag} {x:String} {a:Addr} (h:b7 K x=some a):nsIn K mainGlobals (Str.ofString x)=some (some (.ref a)):=r8 h
theorem ID (W:Wd M) (eo:aI M p sc env loc) (R:Rep M p) {c:String} (hc:c∈gH) (hg:aU sc (Str.ofString c)=true):∃cv,sE M.K c=some cv/\∀{T:Value->Shared->Prop},T cv p.s->wpAny M.m A (eval (.Name (Str.ofString c) q) env) T bL p.s:=by
 cases hb:R1.contains c with
 | true=>
  refine ⟨.type c,by rw [sE,hb];rfl,λhT=>eF W eo R hg (wq W ?_) ?_ hT⟩
  .exact (by decide:∀b∈R1,b∈kJ) c (List.contains_iff_mem.mp hb)
  .exact (by decide+kernel:∀b∈R1,bootBuiltins (Str.ofString b)=some (.type b)) c (List.contains_iff_mem.mp hb)
 | false=>
  refine aw (oa (aaX.mp (aaX.mp W.ok.Px "int" (by decide)) c hc)) λcv hv zz=>?_
  refine ⟨cv,hv,λhT=>?_⟩
  rw [sE,hb] at hv
  refine aw (bm hv) λC hC e0=>?_;subst e0
  exact eR W eo R hg (cS hC) hT
end
section
variable {M:Mo} {k:Nat} {A:Around} {p p':Pt} {sc:Scope} {env:Env} {loc:Loc} {Q:KV} {T:Value->Shared->Prop} {x y z:X} {xs:XL} {e f g:Expr} {es:List Expr} {q q':Pos}
theorem bq {pos:Pos}:∀{es:List Expr},(∀e∈es,bh e=true)->(backTo pos (starEach es env)).any (·.1)=false
 | [],_=>rfl
 | e::es,h=>by
  rw [aT (h e (.head _))]
  show (false||(backTo pos (starEach es env)).any (·.1))=false
  rw [bq λe he=>h e (.tail _ he)];rfl
structure jD (M:Mo) (xs:XL) (sc:Scope) (es:List Expr):Prop where
 pl:∀e∈es,bh e=true
 snd:rm M xs sc es
 nil:es=[]->xs=XL.nil
theorem jo {f:Value} {pos:Pos} (L:jD M xs sc es) (z:nv M k A p sc env loc) {Q:KL} (hq:xs (Γc M k) loc p.H Q) {T:Args->Shared->Prop} (hT:∀p' vs bG,Q bG p'.H->L2 (VR p') vs bG->After M c6 p p'->T ⟨vs,[]⟩ p'.s):
  wpAny M.m A (evalArgs f true (backTo pos (starEach es env)) []) T bL p.s:=by
 have fin:=L.snd pos z hq (λvs s'=>T ⟨vs,[]⟩ s') hT
 cases es with
 | nil=>
  rw [L.nil rfl] at hq
  exact evalArgs_nil3 (hT p [] [] hq .nil (.refl z.rep))
 | cons e es=>
  rw [aT (L.pl e (.head _))] at fin ⊢
  exact evalArgs_plain fin
theorem qZ {f:Value} {vs:List Value} {s:Shared} (h:codeAny M.m A (.call f ⟨vs,[]⟩) (Eo T) s):wpAny M.m A (call f vs) T bL s:=by
 refine wpAny_call (codeAny_mono h λr s' z=>?_)
 rcases r with e | (v | _ | _ | _)<;>first | exact z | exact z.elim
theorem JW {v:Value} {g:Str} {q1:Pos} (W:Wd M) (hg:aU sc g=true) (hn:nsIn M.K mainGlobals g=some (some v)) (hk:keepIn M.K v=true) (L:jD M xs sc es) {QL:KL} (z:nv M k A p sc env loc) (hq:xs (Γc M k) loc p.H QL)
  (hT:∀p' vs bG,QL bG p'.H->L2 (VR p') vs bG->After M c6 p p'->codeAny M.m A (.call v ⟨vs,[]⟩) (Eo T) p'.s):wpAny M.m A (eval (.Call (.Name g q1) es [] q) env) T bL p.s:=by
 refine be (arm_eval_Call_Name' ..) ?_
 have gx:((backTo q (starEach es env)).any (·.1)||(backToKw q (keywordEach [] env)).any (·.1.isNone))=false:=by rw [bq L.pl];rfl
 exact wpAny_bind (eR W z.eo z.rep hg hn (callWith_of gx (keeps_K hk) (jo L z hq λp1 vs bG q r a=>⟨W.X.keeps a.rep.base,qZ (hT p1 vs bG q r a)⟩)))
theorem Fg (W:Wd M) {f:String} (hf:f∈nO):∃a,fa M.K f=some a/\keepIn M.K (.ref a)=true/\isFn M.K (.ref a)=true/\nsIn M.K mainGlobals (Str.ofString f)=some (some (.ref a)):=by
 refine aw (oa (aaX.mp W.ok.fk f hf)) λa ha h=>?_
 have h:=aaV.mp h
 refine ⟨a,?_,h.1,h.2,cS ha⟩
 unfold fa
 rw [(by decide:∀g∈nO,DR.lookup g=none) f hf]
 exact ha
theorem CQ (W:Wd M) {n:Str} {f:String} {q1:Pos} (hg:aU sc n=true) (hf:iW nO n=some f) (L:jD M xs sc es):aA M (X.call f xs) sc (.Call (.Name n q1) es [] q):=λ{zz A zz zz zz zz} z hq T hT=>
 have s:=cD hf
 (Fg W s.2).elim λa h=>JW W hg ((s.1)▸h.2.2.2) h.2.1 L z hq λp1 vs bG q r b=>q.1 a h.1 A p1.W p1.s vs z.cx.call b.rep r T (hT.step b)
theorem Hm.under (c:Cx k A) (args:Args):Hm k (A.under (.builtin "type.__call__" args)):=by
 have w0:(Code.builtin "type.__call__" args).weight<=1:=by
  unfold Code.weight
  split
  .exact aaF _
  .exact abp _
 refine ⟨c.hd,?_,aaw (abb (abj w0 _) _) ?_,?_⟩
 .show pushGuards [] A.guards=some []
  rw [c.guards];rfl
 .have:=c.depth
  exact zF this (by simp+arith)
 .have:=c.units
  show A.units+1+_<=_
  exact zF this (by simp+arith)
theorem wc {K:Frag} {C:Addr} {q m:String} (h:LM K C q m=true):∃f,fa K q=some f/\findIn K (.ref C) (Str.ofString m)=some (some (.ref f))/\isFn K (.ref f)=true/\keepIn K (.ref f)=true:=(oa h).imp λf h=>⟨h.1,(aaV.mp h.2).imp beq_iff_eq.mp aaV.mp⟩
theorem NP (W:Wd M) {c q:String} {C:Addr} (hc:ca M.K c=some C) (hq:FX.lookup c=some q) {vs:List Value} {bG:List AV} (cx:Cx k A) (R:Rep M p) (r:L2 (VR p) vs bG) (hQ:pO M q k (.ref p.n::bG) (p.H.push (.inst c [])) (Xq p.n Q)) (hT:AA M p Q T):
  codeAny M.m A (.call (.ref C) ⟨vs,[]⟩) (Eo T) p.s:=by
 refine aw (oa (aaX.mp W.ok.M6 _ (bx hq))) λC' hC h=>?_
 cases hC.symm.trans (kz hc).1
 refine jv (wc h) λf hf hi TZ zz=>?_
 have X:=W.X.keeps R.base
 obtain ⟨WM,H,hh,g,d,t,os⟩:=p
 refine make_core (makes_of X (W.ok.cls c C hc).makes) (looks_findIn X hi) (λself=>bind_fn X self (beq_iff_eq.mp TZ)) (.inl rfl) ?_
 have z:=(show After M c6 ⟨WM,H,hh,g,d,t,os⟩ ⟨WM,H,(hh.push emptyDict).push (instObj C hh.objs.size),g,d,t,os⟩ from After.grow (t:=t) R ((dJ.push hh emptyDict).trans (dJ.push (hh.push emptyDict) (instObj C hh.objs.size)))).tell (o:= .inst c []) (x:=hh.objs.size+1) (dx:=hh.objs.size) (aba _) (aaF _) (R.new (aba _)) (R.new (aaF _)) R.sz
  (cZ C ([]) 0 ⟨hc,by rw [((Heap.size_push ..).symm)];exact Heap.get?_push_size _ rfl,Heap.get?_push_of_some _ (Heap.get?_push_size _ rfl),.nil,List.nodup_nil,abp _⟩)
 refine codeAny_mono (hQ f hf _ _ ⟨_,g,d,t,os⟩ _ (.under cx _) z.1.rep (.cons z.2 (z.1.o4 r)) (λv s'=>v= .none/\T (.ref (hh.objs.size+1)) s') λp' v av h rv b=>?_) λr s' z=>?_
 .obtain ⟨rfl,h⟩:=h
  exact ⟨rv,hT p' _ _ h (b.rel z.2) (z.1.trans b)⟩
 .rcases r with e | (v | _ | _ | _)<;>first | exact z.elim | exact ⟨z.1,z.2⟩
theorem IJ (W:Wd M) {n:Str} {c:String} {q1:Pos} (hg:aU sc n=true) (hf:iW insts n=some c) (L:jD M xs sc es):aA M (X.new c xs) sc (.Call (.Name n q1) es [] q):=by
 intro k A p env loc Q z hq T hT
 have s:=cD hf
 refine aw (oa (aaX.mp (aaX.mp W.ok.qd c s.2) "int" (by decide))) λD hD zz=>?_
 have hc:ca M.K c=some D:=by unfold ca;exact (if_pos (List.contains_iff_mem.mpr s.2))▸hD
 exact JW W hg ((s.1)▸cS hD) (W.ok.cls c D hc).keep L z hq λp1 vs bG q r b=>(bE q).elim λkey h=>NP W hc h.1 z.cx b.rep r h.2.1 (hT.step b)
theorem uV {v:Value} {n:Str} {b:String} {q1:Pos} (W:Wd M) (hb:b∈kJ) (hg:aU sc n=true) (hn:n=Str.ofString b) (hv:bootBuiltins n=some v) (ht:(∃T,v= .type T)\/∃i,v= .builtin i) (L:jD M xs sc es) {QL:KL} (z:nv M k A p sc env loc) (hq:xs (Γc M k) loc p.H QL)
  (hT:∀p' vs bG,QL bG p'.H->L2 (VR p') vs bG->After M c6 p p'->wpAny M.m A (call v vs) T bL p'.s):wpAny M.m A (eval (.Call (.Name n q1) es [] q) env) T bL p.s:=by
 refine be (arm_eval_Call_Name' ..) ?_
 refine wpAny_bind (eF W z.eo z.rep hg ((hn)▸wq W hb) hv ?_)
 have gx:=bq (env:=env) (pos:=q) L.pl
 rcases ht with ⟨t,rfl⟩ | ⟨i,rfl⟩
 .exact PySem.callWith_type gx (jo L z hq hT)
 .exact callWith_builtin gx (jo L z hq hT)
end
noncomputable def W9 (p:Pt) (f:Flow):Fl->Prop
 | .next=>f= .next
 | .brk=>f= .brk
 | .cont=>f= .cont
 | .ret av=>∃v,f= .ret v/\VR p v av
noncomputable abbrev Os (M:Mo) (sc:Scope) (env:Env) (p:Pt) (Q:KS) (T:Flow->Shared->Prop):Prop:=∀p' f fl loc,Q fl loc p'.H->W9 p' f fl->aI M p' sc env loc->After M (fO sc env) p p'->T f p'.s
noncomputable def KU (M:Mo) (A:Around) (sc:Scope) (env:Env) (p:Pt) (t:Sem Flow) (Q:KS):Prop:=∀T,Os M sc env p Q T->wpAny M.m A t T bL p.s
noncomputable def eE (M:Mo) (x:S) (sc:Scope) (st:Stmt):Prop:=∀{k:Nat} {A:Around} {p:Pt} {env:Env} {loc:Loc} {Q:KS},nv M k A p sc env loc->x (Γc M k) loc p.H Q->KU M A sc env p (exec st env) Q
noncomputable def jH (M:Mo) (x:SL) (sc:Scope) (st:List Stmt):Prop:=∀{k:Nat} {A:Around} {p:Pt} {env:Env} {loc:Loc} {Q:KS},nv M k A p sc env loc->x (Γc M k) loc p.H Q->KU M A sc env p (execs st env) Q
section
variable {M:Mo} {k:Nat} {A:Around} {p p':Pt} {sc:Scope} {env:Env} {loc:Loc} {Q:KS} {T:Flow->Shared->Prop} {x y z:X} {a b:SL} {e f g:Expr} {q q':Pos}
theorem Os.step (hT:Os M sc env p Q T) (a:After M (fO sc env) p p'):Os M sc env p' Q T:=λq f fl loc h r eo b=>hT q f fl loc h r eo (a.trans b)
theorem KU.cO {t:Sem Flow} (h:KU M A sc env p' t Q) (a:After M (fO sc env) p p') (hT:Os M sc env p Q T):wpAny M.m A t T bL p'.s:=h _ (hT.step a)
theorem Lc {h:Heap} {a:Addr} {m:Str->Option Value} (hn:h.Ns a m):∀o,h.get? a=some o->¬gX o:=λo e ⟨zz,vs,k,hd⟩=>by
 refine iP hn λo1 es ep GM O7 zz=>?_
 obtain rfl:=aay (GM.symm.trans e)
 cases O7.symm.trans hd
theorem La {h:Heap} {a:Addr} {v:Option Value} (hn:h.IsCell a v):∀o,h.get? a=some o->¬gX o:=λo e ⟨zz,vs,k,hd⟩=>by
 refine aw hn λo1 GM O7=>?_
 obtain rfl:=aay (GM.symm.trans e)
 cases O7.symm.trans hd
theorem CH {h:Heap} {a:Addr} {m:Str->Option Value} {v:Option Value} (hn:h.Ns a m) (hc:h.IsCell a v):False:=by
 refine iP hn λo1 es ep GM O7 zz=>?_
 refine aw hc λo2 Tm hd2=>?_
 obtain rfl:=aay (GM.symm.trans Tm)
 cases O7.symm.trans hd2
theorem aI.Ig (eo:aI M p sc env loc):∀x,fO sc env x->lA M p x:=λx h=>h.elim (λe=>eo.ns.elim λm hm=>e▸⟨eo.mW.1,eo.mW.2,Lc hm.1⟩) λh=>h.elim λy h=>
 have c:=eo.cells y x h.2
 c.1.elim λov hc=>⟨c.2.1,c.2.2,La hc⟩
theorem pL {x:String} {v:AV}:(loc.upd x v) x=v:=by show (bif _ then _ else _)=_;rw [beq_self_eq_true];rfl
theorem gK {x y:String} {v:AV} (h:y≠x):(loc.upd x v) y=loc y:=by show (bif _ then _ else _)=_;rw [beq_eq_false_iff_ne.mpr h];rfl
theorem kj (eo:aI M p sc env loc) (R:Rep M p) {n:Str} {x:String} (hx:x6 sc n=some x) {v:Value} {av:AV} (r:VR p v av) {T:Unit->Shared->Prop} (hT:∀h t,aI M (p.at h t) sc env (loc.upd x av)->After M (fO sc env) p (p.at h t)->T () (p.at h t).s):
  wpAny M.m A (storeName env n v) T bL p.s:=by
 refine NS (Bb hx) λe0 zz hk=>?_;subst e0
 refine aw eo.ns λm hm hv=>?_
 have gen:∀{a:Addr} {h:Heap} {t:Nat},Heap.SameBut a p.h h->fO sc env a->After M (fO sc env) p (p.at h t):=λhs hb=>.gen R ((hs.1)▸aaF _) eo.Ig λy o e nb=>(hs.2 y λq=>nb (q▸hb)).trans e
 refine hk.elim (λhk=>?_) λhk=>?_
 .have kl:=eo.LJ _ hk
  refine wpAny_storeName_local kl hm (λh' Gh b9=>?_) (eo.fn▸rfl)
  have af:=gen (t:=p.s.toks+1) b9 (.inl rfl)
  have QP:∀{y c},env.cells.lookup y=some c->c≠env.locals:=λhc e=>(eo.cells _ _ hc).1.elim λov z=>CH hm (e▸z)
  refine hT _ _ {eo with ns:=⟨_,Gh,λy h1 h0 h2=>?_⟩,cells:=λy c hc=>?_,mS:=λy h1 h2=>?_} af
  .by_cases q:y=x
   .cases q
    exact ⟨v,if_pos rfl,by rw [pL];exact af.rel r⟩
   .rw [gK q] at h1 ⊢
    exact (hv y h1 h0 h2).imp λu z=>⟨by rw [if_neg λe=>q (cE e)];exact z.1,af.rel z.2⟩
  .have z:=eo.cells y c hc
   exact ⟨z.1.imp λov hi=>hi.sameBut b9 (QP hc),z.2⟩
  .have q:y≠x:=λq=>by cases q;rw [kl] at h2;exact h2.elim (λe=>absurd e (by decide)) λe=>absurd e (by decide)
   rw [gK q] at h1 ⊢
   exact (eo.mS y h1 h2).imp λc z=>z.imp λu z=>⟨z.1,z.2.1.sameBut b9 (QP z.1),af.rel z.2.2⟩
 .have kc:=eo.z6 _ hk
  refine uh (eo.KY _ (.inl kc)) λc hc=>?_
  refine qk (eo.cells _ c hc) λt0 hp=>?_;obtain ⟨ov,hi⟩:=t0
  refine wpAny_storeName_cell eo.fn kc hc hi λh' Vx b9=>?_
  have af:=gen (t:=p.s.toks) b9 (.inr ⟨_,hk,hc⟩)
  refine hT _ _ {eo with ns:=⟨_,hm.sameBut b9 (λe=>CH hm (e▸hi)),λy h1 h0 h2=>?_⟩,cells:=λy c' Gr=>?_,mS:=λy h1 h2=>?_} af
  .have q:y≠x:=λq=>by cases q;rw [kc] at h2;exact absurd h2 (by decide)
   rw [gK q] at h1 ⊢
   exact (hv y h1 h0 h2).imp λu z=>⟨z.1,af.rel z.2⟩
  .by_cases q:c'=c
   .subst q
    exact ⟨⟨_,Vx⟩,hp⟩
   .have z:=eo.cells y c' Gr
    exact ⟨z.1.imp λov hi=>hi.sameBut b9 q,z.2⟩
  .by_cases q:y=x
   .cases q
    exact (bH c v ⟨hc,Vx,by rw [pL];exact af.rel r⟩)
   .rw [gK q] at h1 ⊢
    exact (eo.mS y h1 h2).imp λc' z=>z.imp λu z=>⟨z.1,z.2.1.sameBut b9 (λe=>q (cE (eo.apart _ _ c (e▸z.1) hc))),af.rel z.2.2⟩
theorem KU.eq {t t':Sem Flow} (e:t=t') (h:KU M A sc env p t' Q):KU M A sc env p t Q:=e▸h
theorem rW:jH M SL.nil sc []:=λ{zz zz p zz loc zz} z hq T hT=>wpAny_pure (hT p _ .next loc hq rfl z.eo (.refl z.rep))
theorem nW {s:S} {r:SL} {st:Stmt} {WJ:List Stmt} (h1:eE M s sc st) (h2:jH M r sc WJ):jH M (SL.cons s r) sc (st::WJ):=λz hq=>.eq (arm_execs_cons ..) λT hT=>wpAny_bind (h1 z hq _ λp1 f fl Ct q r eo a=>by
 cases fl with
 | next=>obtain rfl:=show f= .next from r;exact (h2 ⟨z.cx,eo,a.rep⟩ q).cO a hT
 | brk=>obtain rfl:=show f= .brk from r;exact wpAny_pure (hT p1 _ .brk Ct q rfl eo a)
 | cont=>obtain rfl:=show f= .cont from r;exact wpAny_pure (hT p1 _ .cont Ct q rfl eo a)
 | ret av=>refine bU r λv e0 rv=>?_;subst e0;exact wpAny_pure (hT p1 _ (.ret av) Ct q ⟨v,rfl,rv⟩ eo a))
theorem BC:eE M S.cont sc (.Continue q):=λ{zz zz p zz loc zz} z hq=>.eq (arm_exec_Continue ..) λT hT=>wpAny_bind (wpAny_standAt (wpAny_pure (hT p _ .cont loc hq rfl z.eo (.refl z.rep))))
theorem FQ:eE M S.brk sc (.Break q):=λ{zz zz p zz loc zz} z hq=>.eq (arm_exec_Break ..) λT hT=>wpAny_bind (wpAny_standAt (wpAny_pure (hT p _ .brk loc hq rfl z.eo (.refl z.rep))))
theorem Fr (h:aA M x sc e):eE M (S.ret x) sc (.Return (some e) q):=λ{zz zz zz env loc zz} z hq=>.eq (arm_exec_Return ..) λT hT=>wpAny_bind (wpAny_standAt (by
 exact wpAny_bind (h z hq _ λp1 v av q r a=>wpAny_pure (hT p1 _ (.ret av) loc q ⟨v,rfl,r⟩ (z.eo.after a) a.no))))
theorem Ix {p1 q1:List Stmt} (h1:d6 M x sc e) (h2:jH M a sc p1) (h3:jH M b sc q1):eE M (S.bA x a b) sc (.If e p1 q1 q):=λz hq=>.eq (arm_exec_If ..) λT hT=>wpAny_bind (wpAny_standAt (wpAny_bind (h1 (F:=λzz=>V8 _ _ _ _) z hq _ λp1 v c hb hf a=>match c,hf with
 | true,hf=>(h2 (z.after a) hf).cO a.no hT
 | false,hf=>(h3 (z.after a) hf).cO a.no hT)))
theorem dc {t:Option Expr} {l:Nat} (h:dE e=true):swapsWith e t l env=pure false:=by
 cases e<;>first | rfl | exact (aaE h).elim
theorem iB (eo:aI M p sc env loc):interactive env=false:=by
 unfold interactive
 rw [eo.fn];rfl
theorem u9 (h:yH e=true):∃f as kw p,e= .Call f as kw p:=by
 cases e<;>first | exact ⟨_,_,_,_,rfl⟩ | exact (aaE h).elim
theorem B5 (hc:yH e=true) (h:aA M x sc e):eE M (S.expr x) sc (.Expr e q):=by
 obtain ⟨f,as,kw,p0,rfl⟩:=u9 hc
 exact λ{zz zz zz env loc zz} z hq=>.eq (exec_Expr env _ q (iB z.eo) (dc rfl)) λT hT=>wpAny_bind (wpAny_standAt (wpAny_bind (h z hq _ λp1 v av q r a=>by
  have g:=hT p1 _ .next loc q rfl (z.eo.after a) a.no
  clear r;cases v with
  | ref=>exact wpAny_bind (wpAny_standAt (wpAny_bind (wpAny_runValue (codeAny_builtin entry_let_go (wpAny_pure (wpAny_pure g))))))
  | _=>exact wpAny_pure g)))
end
section
variable {M:Mo} {k:Nat} {A:Around} {p p':Pt} {sc:Scope} {env:Env} {loc:Loc} {Q:KS} {T:Flow->Shared->Prop} {x y z:X} {e f g:Expr} {q q':Pos}
theorem DN {n:Str} {v:String} (hx:x6 sc n=some v) (hc:dE e=true) (h:aA M x sc e):eE M (S.set v x) sc (.Assign [.Name n q'] e q):=λz hq T hT=>wpAny_Assign_Name (h z hq _ λp1 v av q r a=>
 kj (z.eo.after a) a.rep hx r λh t eo b=>hT _ .next .next _ q rfl eo (a.no.trans b)) (dc hc)
theorem HM {f:String} {hsh:Int} {t:Tok} {v:Value} {av:AV} (r:VR p v av):∀{ds:List DictEntry} {fs:List (String × AV)},L2 (vS p) ds fs->L2 (vS p) (putL (Str.ofString f) hsh (.str (Str.ofString f) t) v ds) (u5 f av fs)/\ds.any (·.refKey)=false:=by
 intro ds fs l
 induction l with
 | nil=>exact ⟨.cons ⟨⟨t,rfl⟩,r⟩ .nil,rfl⟩
 | @cons d mu _ _ a b ih=>
  obtain ⟨m,u⟩:=mu
  refine uh a.key λt' ht=>?_
  have hs:d.key.isStr (Str.ofString f)=(m==f):=by rw [ht];exact cC m f
  refine ⟨?_,by rw [List.any_cons,ih.2,DictEntry.refKey,ht];rfl⟩
  unfold putL
  rw [hs]
  show L2 _ _ (bif m==f then _ else _)
  cases q:m==f with
  | true=>exact .cons ⟨⟨t',by rw [ht,beq_iff_eq.mp q]⟩,r⟩ b
  | false=>exact .cons a ih.1
theorem Al {f:String} {v:AV}:∀{fs:List (String × AV)},(fs.map (·.1)).Nodup->((u5 f v fs).map (·.1)).Nodup/\(u5 f v fs).length<=fs.length+1/\∀x∈(u5 f v fs).map (·.1),x=f\/x∈fs.map (·.1)
 | [],_=>⟨aa8.mpr ⟨(λh=>(aaU h).elim),.nil⟩,aaF _,λx hx=>.inl (aaK.mp hx)⟩
 | (m,u)::r,hn=>by
  have Gh:=aa8.mp hn
  have ih:=Al (f:=f) (v:=v) Gh.2
  show ((bif m==f then _ else _:List (String × AV)).map _).Nodup/\(bif m==f then _ else _:List (String × AV)).length<=_/\∀x∈(bif m==f then _ else _:List (String × AV)).map _,_
  cases q:m==f with
  | true=>exact ⟨hn,aba _,λx hx=>.inr hx⟩
  | false=>exact ⟨aa8.mpr ⟨λhm=>(ih.2.2 _ hm).elim (λe=>beq_eq_false_iff_ne.mp q e) Gh.1,ih.1⟩,aa1 ih.2.1,λx hx=>(aaH.mp hx).elim (λe=>.inr (e▸ .head _)) λhx=>(ih.2.2 _ hx).imp id (.tail _)⟩
theorem KN (W:Wd M) (R:Rep M p) {f:String} (hf:f∈gg) {a:Nat} (ha:a < p.n) {c:String} {fs:List (String × AV)} (hg:p.H.g a= .inst c fs) (hz:fs.length < 100) {v:Value} {av:AV} (r:VR p v av) {T:Unit->Shared->Prop}
  (hT:∀h t,After M c6 p ⟨p.W,p.H.set a (.inst c (u5 f av fs)),{p.s with heap:=h,toks:=t}⟩->T () {p.s with heap:=h,toks:=t}):wpAny M.m A (setAttr (.ref (p.W.ρ a)) (Str.ofString f) v) T bL p.s:=by
 refine bj (nj R ha hg) λC ds n i=>?_
 have ok:=W.ok.cls c C i.ca
 have X:=W.X.keeps R.base
 have I:InstAt p.h (p.W.ρ a) ⟨.ref C,some (p.W.δ a),.plain,#[]⟩ C (some (dictOf ds n)):=⟨i.at_,rfl,rfl,i.dat⟩
 refine aw (any_some ok.dict) λcd TS Qf=>?_
 refine set_plain X I ok.set (osa_open (s:=(p.at p.h (p.s.toks+1)).s) X I ok.over (Gd ok hf).2 λb=>
  wpAny_bind (wpAny_pure (wpAny_bind (wpAny_bind (wpAny_loadPart (s:=(p.at p.h (p.s.toks+1)).s) i.at_ (wpAny_bind (looks_clsIn X TS _ _ _ _ (λzz zz e=>e) ?_)))))))
 rw [Qf]
 refine wpAny_pure (a:=some (p.W.δ a)) (wpAny_bind (wpAny_pure (wpAny_bind ?_)))
 refine wpAny_bind (wpAny_bind (wpAny_askSetting (wpAny_pure (wpAny_bind (wpAny_mkText (wpAny_bind (wpAny_loadPart (s:=(p.at p.h (p.s.toks+1+1)).s) i.dat ?_)))))))
 have rel:=HM (f:=f) (hsh:=PyData.keyHash M.w.params (Str.ofString f)) (t:=p.s.toks+1) r i.l
 have e0:(!ds.toArray.any (·.key.isStr (Str.ofString f))&&ds.toArray.any (·.refKey))=false:=by
  rw [<-Array.any_toList,<-Array.any_toList]
  rw [rel.2,Bool.and_false]
 dsimp only
 rw [aRefKeyMayBeTheName_at,e0]
 refine wpAny_updatePart (s:=(p.at p.h (p.s.toks+1+1)).s) i.dat ?_
 have U:=putName_dict (Str.ofString f) (PyData.keyHash M.w.params (Str.ofString f)) (.str (Str.ofString f) (p.s.toks+1)) v ds n
 have hs:Heap.SameBut (p.W.δ a) p.h (p.h.update (p.W.δ a) (Obj.putName (Str.ofString f) (PyData.keyHash M.w.params (Str.ofString f)) (.str (Str.ofString f) (p.s.toks+1)) v)):=Heap.SameBut.update ..
 have D':(p.h.update (p.W.δ a) (Obj.putName (Str.ofString f) (PyData.keyHash M.w.params (Str.ofString f)) (.str (Str.ofString f) (p.s.toks+1)) v)).get? _=_:=(Heap.get?_update_self _ i.dat (congrArg _ (U))).trans (congrArg some U)
 have keys:=Al (f:=f) (v:=av) i.nd
 have QO:(u5 f av fs).length<=100:=aaw keys.2.1 hz
 refine wpAny_bind (wpAny_lookBehind D' (pastItsLine_dict (by rw [List.size_toArray,rel.1.len];exact aaw QO (by decide))) (wpAny_pure (hT _ _ (After.set R ha (Iv hg) (.inr rfl) (aaS hs.1.symm) (B:=c6) (λzz h=>h.elim) (λx o e n zz=>(hs.2 x n).trans e) rfl λq e l=>?_))))
 subst e
 have ne:p.W.ρ a≠p.W.δ a:=λe=>by
  have h:=i.at_
  rw [e,i.dat] at h
  exact nomatch h
 exact (cZ C _ _ ⟨i.ca,(hs.2 _ ne).trans i.at_,D',rel.1.imp λzz zz z=>z.mono l,keys.1,QO⟩)
theorem BO (W:Wd M) {n:String} (hf:n∈gg) (hc:dE f=true) (h1:aA M x sc e) (h2:aA M y sc f):eE M (S.dI x n y) sc (.Assign [.Attribute e (Str.ofString n) q'] f q):=λ{zz zz zz zz loc zz} z hq T hT=>
 plainObj_wpAny_Assign_Attribute (h2 z hq _ λp1 v av q r a=>h1 (z.after a) q _ λp2 u bv q2 r2 b=>by
  refine bU (bK q2) λc e0 h=>?_;subst e0
  obtain ⟨rfl,lb⟩:=r2
  refine c4 (zE h.run) λd fs hg h=>?_
  refine qk (fu h) λhz h=>?_
  exact KN W b.rep hf lb hg (Nat.blt_eq.mp hz) (b.rel r) λh' t d=>have a4:=(a.trans b).trans d;hT _ .next .next loc h.run rfl (z.eo.after a4) a4.no) (dc hc)
theorem L2.set {α β:Type} {r:α->β->Prop}:∀{l:List α} {m:List β} (_:L2 r l m) (i:Nat) {a:α} {b:β},r a b->L2 r (l.set i a) (m.set i b):=by
 intro l m h
 induction h with
 | nil=>exact λzz zz zz zz=>.nil
 | cons p q ih=>
  intro i a b r
  cases i with
  | zero=>exact .cons r q
  | succ i=>exact .cons p (ih i r)
theorem oH {a:Nat} (R:Rep M p) (ha:a < p.n) {xs:List AV} (e:p.H.g a= .list xs):p.W.δ a=p.W.ρ a:=by
 have:=R.obj a ha
 rw [e] at this
 exact this.1
theorem nI (R:Rep M p) {a:Nat} (ha:a < p.n) (hn:(p.H.g a).qt=false) {h':Heap} {t:Nat} (hs:Heap.SameBut (p.W.ρ a) p.h h') {o:AO} (no:o.qt=false) (ok:∀q:Pt,q=⟨p.W,p.H.set a o,{p.s with heap:=h',toks:=t}⟩->fQ p q->Cr M q (p.W.ρ a) (p.W.δ a) o):
  After M c6 p ⟨p.W,p.H.set a o,{p.s with heap:=h',toks:=t}⟩:= .set R ha hn (.inl rfl) (aaS hs.1.symm) (λzz h=>h.elim) (λx o e n zz=>(hs.2 x n).trans e) no ok
theorem pu (R:Rep M p) {a:Nat} (ha:a < p.n) {xs:List AV} (e:p.H.g a= .list xs) {j:Int} {i:Nat} (ej:j=i) {t:Tok} {u:Value} {y:AV} (ru:VR p u y) (h1:i < xs.length) {T:Unit->Shared->Prop}
  (hT:∀h t,After M c6 p ⟨p.W,p.H.set a (.list (xs.set i y)),{p.s with heap:=h,toks:=t}⟩->T () {p.s with heap:=h,toks:=t}):wpAny M.m A (setItem (.ref (p.W.ρ a)) (.int j t) u) T bL p.s:=by
 refine aq (aK R ha e) λvs k1 l=>?_
 have ty:p.s.TypeIs (.ref (p.W.ρ a)) "list":=⟨_,l.at_,rfl⟩
 have hi:i < vs.size:=by rw [aB l.l];exact h1
 unfold setItem
 try with_reducible refine wpAny_holding ?_
 refine wpAny_bind (wpAny_sequenceKey ty (by decide) (wpAny_bind (wpAny_callSpecial?_slot (name:=Str.ofString "__setitem__") ty slot_list_setitem (wpAny_call_entry slot_list_setitem ty entry_list_setitem ?_ (args_list_setitem _ _ _)))))
 show wpAny _ _ (Builtin.List.listSubscript? (.int j t) >>= _) _ _ p.s
 refine wpAny_bind (wpAny_listSubscript_int (fitsIndex_of (ej▸aa0 i) (ej▸Int.lt_trans (abA.mpr h1) (rV l.len))) ?_)
 subst ej
 refine wpAny_bind (wpAny_bind (wpAny_seqItemAt l.at_ (items:=vs) (n:=k1) rfl (wpAny_pure ?_)))
 rw [Array.getElem?_eq_getElem hi]
 refine wpAny_bind (wpAny_setSeqItemAt l.at_ rfl (wpAny_pure ⟨.none,rfl,wpAny_pure (hT _ _ (nI R ha (tt e) (Heap.SameBut.update ..) rfl λq e' li=>?_))⟩))
 subst e'
 exact ⟨oH R ha e,_,_,get?_update_seq l.at_ (·.setIfInBounds i u),by rw [Array.toList_setIfInBounds];exact (wU.mono li l.l).set i (ru.mono li),by rw [List.length_set];exact l.len⟩
theorem Lb {d:Addr} {o:Obj} {h h':Heap} (ho:h.get? d=some o) (hc:o.cls≠ .type "tuple") (hs:Heap.SameBut d h h'):dG h h':=λx ob e q=>(hs.2 x λz=>by
 subst z
 obtain rfl:=aay (ho.symm.trans e)
 exact hc q.1).trans e
theorem C0 (hu:A.units+100 < cLine) {d:Addr} {ds:Array DictEntry} {ep:Nat} {es:List (AV × AV)} (D:j5 M p d ds ep es) {v u:Value} {x y:AV} (r:VR p v x) (ru:VR p u y) (fit:bB x es) (hz:es.length < lim) {T:Unit->Shared->Prop}
  (hT:∀h t,Heap.SameBut d p.h h->(∀q:Pt,fQ p q->q.h=h->∃ds ep,j5 M q d ds ep (bS x y es))->T () (p.at h t).s):wpAny M.m A (dictSet d v u) T bL p.s:=by
 unfold dictSet
 try with_reducible refine wpAny_holding ?_
 refine wpAny_bind (yV (vu hu) r fit.1 λt=>?_)
 unfold dictSetHashed
 try with_reducible refine wpAny_holding ?_
 have lt:fQ p (p.at p.h t):= .grow λzz zz e zz=>e
 refine wpAny_bind (sr (p:=p.at p.h t) hu (D.mono lt λzz e=>e) (r.mono lt) fit ?_)
 have nd:=zC (k:=x) (v:=y) D.nd
 have len:(bS x y es).length<=lim:=aaw jY hz
 have set:=wz x y es
 cases q:gB x es with
 | none=>
  replace set:=(q)▸set
  refine wpAny_bind (wpAny_rule (wpAny_updateDictKeys (s:=(p.at p.h t).s) D.at_ rfl ?_ (by rw [<-Array.length_toList,D.l.len];exact cV (aaI hz))))
  exact hT _ t (Heap.SameBut.update ..) λq li e=>⟨ds.push ⟨vQ M.w.params x,v,u⟩,ep+1,by rw [e];exact Heap.get?_update_self _ D.at_ rfl,by rw [set,Array.toList_push];exact (D.l.imp λzz zz z=>z.mono li).snoc ⟨r.mono li,fit.1,rfl,ru.mono li⟩,nd,len⟩
 | some i=>
  rw [q] at set
  refine wpAny_bind (wpAny_rule (wpAny_bind (wpAny_updateDict (s:=(p.at p.h t).s) D.at_ rfl (wpAny_point ?_))))
  exact hT _ t (Heap.SameBut.update ..) λq li e=>⟨ds.modify i λe=>{e with val:=u},ep,by rw [e];exact Heap.get?_update_self _ D.at_ rfl,by
   rw [set,Array.toList_modify]
   exact L2.modify (λa b z=>⟨z.key,z.kk,z.hash,ru.mono li⟩) i (D.l.imp λzz zz z=>z.mono li),nd,len⟩
theorem oK (hu:A.units+102 < cLine) (R:Rep M p) {a:Nat} (ha:a < p.n) {es:List (AV × AV)} (e:p.H.g a= .dict es) {v u:Value} {x y:AV} (r:VR p v x) (ru:VR p u y) (fit:bB x es) (hz:es.length < lim) {T:Unit->Shared->Prop}
  (hT:∀h t,After M c6 p ⟨p.W,p.H.set a (.dict (bS x y es)),{p.s with heap:=h,toks:=t}⟩->T () {p.s with heap:=h,toks:=t}):wpAny M.m A (setItem (.ref (p.W.ρ a)) v u) T bL p.s:=by
 refine ga (cF R ha e) λeδ ds ep D=>?_
 have ty:=MF D
 unfold setItem
 try with_reducible refine wpAny_holding ?_
 refine wpAny_bind (wpAny_sequenceKey ty (by decide) (wpAny_bind (wpAny_callSpecial?_slot (name:=Str.ofString "__setitem__") ty slot_dict_setitem (wpAny_call_entry slot_dict_setitem ty entry_dict_setitem ?_ (args_dict_setitem _ _ _)))))
 refine wpAny_bind (wpAny_notOrdered_dict ty ?_)
 show wpAny _ _ (dictSet (p.W.ρ a) v u >>= _) _ _ p.s
 exact wpAny_bind (C0 (aaz (aba _) (rE hu (by decide))) D r ru fit hz λh t hs D'=>wpAny_pure ⟨.none,rfl,wpAny_pure (hT _ _ (nI R ha (fF e) hs rfl λq e' li=>⟨eδ,D' q li (congrArg _ (e'))⟩))⟩)
theorem BB (hc:dE g=true) (h1:aA M x sc e) (h3:aA M y sc f) (h2:aA M z sc g):eE M (S.b8 x y z) sc (.Assign [.Subscript e f q'] g q):=λ{zz zz zz zz loc zz} z hq T hT=>
 wpAny_Assign_Subscript (h2 z hq _ λp1 v av q r a=>h1 (z.after a) q _ λp2 u bv q2 r2 b=>h3 (z.after (a.trans b)) q2 _ λp3 w cv q3 r3 d=>by
  refine bU (bK q3) λc e0 h=>?_;subst e0
  clear q3;obtain ⟨rfl,lb⟩:=d.rel r2
  have h:=h.run
  cases hg:p3.H.g c with
  | dict es=>
   replace h:=(hg)▸h
   refine w5 h λfit hz h=>?_
   exact oK z.cx.room d.rep lb hg r3 ((b.trans d).rel r) fit hz λh' t d2=>have a4:=((a.trans b).trans d).trans d2;hT _ .next .next loc h.run rfl (z.eo.after a4) a4.no
  | list xs=>
   replace h:=(hg)▸h
   refine bU (aG h) λj e1 h=>?_;subst e1
   refine w5 (fu h) λhj hz h=>?_
   refine wV (kG hj) λi e2=>?_;subst e2
   obtain ⟨t,rfl⟩:=r3
   exact pu d.rep lb hg rfl ((b.trans d).rel r) hz λh' t d2=>have a4:=((a.trans b).trans d).trans d2;hT _ .next .next loc h.run rfl (z.eo.after a4) a4.no
  | _=>replace h:=(hg)▸h;exact h.elim) (dc hc)
end
end
section
open PySem
theorem kR {M:Model} {Γ:Ctx} {p:Pos} {t:Sem Fin} {fs:List Frame} {s s':Shared} {e:End} (h:Runs M Γ p t fs s e s'):s.heap.objs.size<=s'.heap.objs.size:=by
 induction h<;>(try simp only [Shared.setGen,Heap.size_push,Heap.size_update] at*)<;>first | exact aaF _ | assumption | exact Nat.le_of_succ_le (by assumption) | (apply aaw<;>assumption)
theorem sF {M:Model} {Γ:Ctx} {p:Pos} {s s':Shared} {r:Result} (h:Returns M Γ p s r s'):s.heap.objs.size<=s'.heap.objs.size:=kR h
theorem yB {M:Model} {Γ:Ctx} {p:Pos} {g:Nat} {r:Resume} {s s':Shared} {res:GenResult} (h:Wakes M Γ p g r s res s'):s.heap.objs.size<=s'.heap.objs.size:=by
 unfold Wakes at h
 split at h
 .exact h.elim
 .split at h
  .obtain ⟨e₁,s₁,hr,_,_,rfl⟩:=h;exact (kR hr:(s.setGen g .running).heap.objs.size<=s₁.heap.objs.size)
  .exact (h.2)▸aaF _
  .exact (h.2)▸aaF _
 .refine sx h λe₁ s₁ hr zz zz e0=>?_;subst e0;exact (kR hr:(s.setGen g .running).heap.objs.size<=s₁.heap.objs.size)
 .rw [h.2];exact aaF _
 .rw [h.2];exact aaF _
open Sem in
theorem GL {α:Type} (M:Model) (Γ:Ctx) (n:Nat) (t:Sem α):∀(Q:α->Pos->Shared->Prop) (E:Value->Pos->Shared->Prop) (p:Pos) (s:Shared),n<=s.heap.objs.size->wp M Γ t Q E p s->
  wp M Γ t (λa p' s'=>n<=s'.heap.objs.size/\Q a p' s') (λe p' s'=>n<=s'.heap.objs.size/\E e p' s') p s:=by
 induction t with
 | pure a=>intro Q E p s hn h;exact ⟨hn,h⟩
 | raise e=>intro Q E p s hn h;exact ⟨hn,h⟩
 | unsupported _=>intro Q E p s _ h;exact h
 | finish _=>intro Q E p s _ h;exact h
 | rule _ k ih=>intro Q E p s hn h;exact ih () Q E p s hn h
 | «at» p' k ih=>intro Q E p s hn h;exact ih () Q E p' s hn h
 | load a _ k ih=>intro Q E p s hn h;refine aw h λo ho h=>?_;exact ⟨o,ho,ih o Q E p s hn h⟩
 | update a _ f k ih=>intro Q E p s hn h;exact ⟨h.1,ih () Q E p _ (by simpa [Heap.size_update] using hn) h.2⟩
 | loadIfAlive a k ih=>intro Q E p s hn h;exact ih _ Q E p s hn h
 | point _ k ih=>intro Q E p s hn h;exact ih () Q E p s hn h
 | register _ _=>intro Q E p s _ h;exact h
 | alloc o k ih=>intro Q E p s hn h;exact ih _ Q E p _ (by simp only [Heap.size_push];exact abx hn) h
 | fresh k ih=>intro Q E p s hn h;exact ih _ Q E p _ hn h
 | ask k ih=>intro Q E p s hn h;exact ih _ Q E p s hn h
 | choose src m k ih=>intro Q E p s hn h;exact ⟨h.1,ih _ Q E p _ hn h.2⟩
 | os q _ k ih=>intro Q E p s hn h;exact ih _ Q E p _ hn h
 | call c hd _ _ k ih=>intro Q E p s hn h;refine c4 h λr s' hr h=>?_;exact (bH r s' ⟨hr,ih r Q E p s' (aaw hn (sF hr)) h⟩)
 | handled own k ih=>intro Q E p s hn h;exact ih _ Q E p s hn h
 | genState g k ih=>intro Q E p s hn h;refine aw h λst hs h=>?_;exact ⟨st,hs,ih _ Q E p s hn h⟩
 | newGen c k ih=>intro Q E p s hn h;exact ih _ Q E p _ hn h
 | resume g r _ k ih=>intro Q E p s hn h;refine c4 h λres s' hw h=>?_;exact (bH res s' ⟨hw,ih res Q E p s' (aaw hn (yB hw)) h⟩)
 | yield _ _ _ _=>intro Q E p s _ h;exact h
 | stack k ih=>intro Q E p s hn h;exact ih _ Q E p s hn h
 | fork _ _=>intro Q E p s _ h;exact h
 | thread k ih=>intro Q E p s hn h;exact ih _ Q E p s hn h
 | await _ _ _ _ _=>intro Q E p s _ h;exact h
theorem aP {α:Type} {M:Model} {A:Around} {s:Shared} {t:Sem α} {Q:α->Shared->Prop} {E:Value->Shared->Prop}
  (h:wpAny M A t (λa s'=>s.heap.objs.size<=s'.heap.objs.size->Q a s') (λe s'=>s.heap.objs.size<=s'.heap.objs.size->E e s') s):wpAny M A t Q E s:=
 λΓ p hΓ=>Sem.wp_mono M Γ _ (λzz zz zz h=>h.2 h.1) (λzz zz zz h=>h.2 h.1) _ _ (GL M Γ s.heap.objs.size t _ _ p s (aaF _) (h Γ p hΓ))
end
section
open PySem PySem.W PySem.Spec PySem.Calls PyProof.Rows PySem.SeqAt
section
variable {M:Mo} {k:Nat} {A:Around} {B:Addr->Prop} {p p':Pt} {sc:Scope} {env:Env} {loc loc':Loc} {Q:KS} {T:Flow->Shared->Prop} {x y z:X} {e f g:Expr} {q q':Pos}
theorem gP {y:Str} (h:Ax e=some y):∃p,e= .Name y p:=by
 cases e<;>first | exact ⟨_,by rw [aay h]⟩ | exact nomatch h
theorem F8:∀{es:List Expr} {xs:List String},jr sc es=some xs->(assignEach es env).length=xs.length/\(assignEach es env).findIdx? (·.1)=none/\(assignEach es env).map (·.2)=es.map λe=>assign e env
 | [],xs,h=>by obtain rfl:=aay h;exact ⟨rfl,rfl,rfl⟩
 | e::es,xs,h=>by
  refine aw (bb h) λy h1 h=>?_
  refine aw (bb h) λx h2 h=>?_
  refine aw (bm h) λys h3 e0=>?_;subst e0
  obtain ⟨p,rfl⟩:=gP h1
  have ih:=F8 h3
  exact ((show assignEach (.Name y p::es) env=(false,assign (.Name y p) env)::assignEach es env from rfl))▸⟨congrArg (· +1) ih.1,by rw [List.findIdx?_cons,ih.2.1];rfl,congrArg (_::·) ih.2.2⟩
theorem rT:∀{es:List Expr} {xs:List String} {vs:List Value} {bG:List AV} {loc:Loc} {p:Pt},jr sc es=some xs->aI M p sc env loc->Rep M p->L2 (VR p) vs bG->d8 xs bG loc=some loc'->∀{T:Unit->Shared->Prop},
  (∀h t,aI M (p.at h t) sc env loc'->After M (fO sc env) p (p.at h t)->T () (p.at h t).s)->wpAny M.m A (assignInOrder (es.map λe=>assign e env) vs) T bL p.s
 | [],xs,vs,bG,loc,p,hg,eo,R,r,hu,T,hT=>by
  obtain rfl:=aay hg
  cases r with
  | nil=>obtain rfl:=aay hu;exact wpAny_pure (hT _ _ eo (.refl R))
  | cons=>cases hu
 | e::es,xs,vs,bG,loc,p,hg,eo,R,r,hu,T,hT=>by
  refine aw (bb hg) λy h1 h=>?_
  refine aw (bb h) λx h2 h=>?_
  refine aw (bm h) λys h3 e0=>?_;subst e0
  obtain ⟨q,rfl⟩:=gP h1
  cases r with
  | nil=>cases hu
  | @cons v a vs bG r rs=>
   exact wpAny_bind (wpAny_holding (wpAny_assign_Name (kj eo R h2 r λh t BJ a1=>rT h3 BJ a1.rep (a1.o4 rs) hu λh t xZ a2=>hT h t xZ (a1.trans a2))))
theorem jx:∀{xs:List String} {vs:List AV} {loc loc':Loc},d8 xs vs loc=some loc'->xs.length=vs.length
 | [],[],_,_,_=>rfl
 | _::xs,_::vs,_,_,h=>congrArg (· +1) (jx (xs:=xs) h)
theorem z8 {es:List Expr} {xs:List String} {n:Nat} (eo:aI M p sc env loc) (R:Rep M p) (hh:A.handled=none) (hg:jr sc es=some xs) {v:Value} {av:AV} (r:VR p v av) (hb:gj (.tup xs) av loc=some loc') {T:Unit->Shared->Prop}
  (hT:∀h t,aI M (p.at h t) sc env loc'->After M (fO sc env) p (p.at h t)->T () (p.at h t).s):wpAny M.m A (assign (.Tuple es n q) env v) T bL p.s:=by
 cases av with
 | tup vs=>
  refine w5 (F8 (env:=env) hg) λl1 l2 l3=>?_
  refine cf r.tup λx items e0 it hr=>?_;subst e0
  refine be (arm_assign_Tuple ..) ?_
  refine wpAny_bind (wpAny_standAt ?_)
  unfold unpack
  rw [l2,l3,l1,jx hb,<-aB hr]
  refine wpAny_bind (wpAny_holding (aP (unpackItems_tuple hh it λh' he hz=>?_)))
  have a1:After M c6 p (p.at h' p.s.toks):= .grow R ⟨λx o e=>he x o (aaJ (Heap.lt_size e)) e,hz⟩
  exact rT hg (eo.after a1) a1.rep (a1.o4 hr) hb λh t xZ a2=>hT h t xZ (a1.no.trans a2)
 | _=>cases hb
theorem wr (eo:aI M p sc env loc) (R:Rep M p) (hh:A.handled=none) {tg:Tg} (ht:D6 sc e=some tg) {v:Value} {av:AV} (r:VR p v av) (hb:gj tg av loc=some loc') {T:Unit->Shared->Prop}
  (hT:∀h t,aI M (p.at h t) sc env loc'->After M (fO sc env) p (p.at h t)->T () (p.at h t).s):wpAny M.m A (assign e env v) T bL p.s:=by
 cases e with
 | Name y q=>
  refine aw (bm ht) λx h e0=>?_;subst e0
  obtain rfl:=aay hb
  exact wpAny_assign_Name (kj eo R h r hT)
 | Tuple es n q=>
  refine aw (bm ht) λxs h e1=>?_;subst e1
  exact z8 eo R hh h r hb hT
 | _=>exact nomatch ht
theorem oU {es:List Expr} {n:Nat} (h:iv e=true):swappedStores [.Tuple es n q] e env=pure none:=by
 cases e<;>first | rfl | exact (aaE h).elim
theorem Cl {es:List Expr} {xs:List String} {n:Nat} (hg:jr sc es=some xs) (hc:dE e=true) (hn:iv e=true) (h:aA M x sc e):eE M (S.bM xs x) sc (.Assign [.Tuple es n q'] e q):=λ{zz zz zz env zz zz} z hq T hT=>
 Assign_Tuple (h z hq _ λp1 v av w r a=>(bE w).elim λl s=>z8 (z.eo.after a) a.rep z.cx.hd hg r s.1 λh t eo b=>hT _ .next .next l s.2 rfl eo (a.no.trans b)) (dc (env:=env) (t:=some (.Tuple es n q')) (l:=q.line) hc) (oU hn)
noncomputable def MG (p:Pt) (it a i:Nat):AO->Prop
 | .list _=>p.h.IsListIter it (p.W.ρ a) i
 | .dict es=>∃ds ep,p.h.get? (p.W.ρ a)=some (VY ds ep)/\p.h.IsKeyIter it (p.W.ρ a) i es.length ep
 | _=>False
noncomputable def nU (p:Pt) (it i:Nat):Src->Prop
 | .tup xs=>∃t items,IsTupIter p.h it t i/\IsTup p.h t items/\L2 (VR p) items.toList xs
 | .obj a=>a < p.n/\MG p it a i (p.H.g a)
 | .rev a=>a < p.n/\∃xs,p.H.g a= .list xs/\i<=xs.length/\p.h.IsRevIter it (p.W.ρ a) ((xs.length:Int) - 1 - i)
 | .Gs n=>(i:Int)<=n/\IsRangeIter p.h it i (n - i) 1
theorem x5 {h h':Heap} {a t:Addr} {i:Nat} (x:IsTupIter h a t i) (e:∀o,h.get? a=some o->h'.get? a=some o):IsTupIter h' a t i:=x.imp λo x=>⟨e _ x.1,x.2⟩
theorem iK {es:List (AV × AV)} {all:List AV} (h:eX (.dict es)=some all):(∀e∈es,kk e.1=1)/\all=es.map (·.1):=by
 refine qk (bg h) λh1 h2=>?_
 exact ⟨λe he=>beq_iff_eq.mp (aaX.mp h1 e he),(aay h2).symm⟩
theorem nU.keep {it i:Nat} {z:Src} {all:List AV} {n:Nat} (x:nU p it i z) (a:After M B p p') (ho:¬Own p it) (hb:¬B it) (st:ck z all n p.H) (ye:ck z all n p'.H):nU p' it i z:=by
 have ki:∀o,p.h.get? it=some o->p'.h.get? it=some o:=λo e=>a.keep _ o e ho hb
 cases z with
 | tup xs=>
  refine aS x λt items h1 h2 h3=>?_
  exact (bH t items ⟨x5 h1 ki,sj a.tup h2,a.o4 h3⟩)
 | obj b=>
  obtain ⟨hl,x⟩:=x
  refine ⟨aax hl a.le,?_⟩
  have s1:eX (p.H.g b)=some all:=st.1
  have s2:jk (p.H.t b) (p.H.g b)=n:=st.2
  have t1:eX (p'.H.g b)=some all:=ye.1
  have t2:jk (p'.H.t b) (p'.H.g b)=n:=ye.2
  cases e:p.H.g b with
  | list xs=>
   rw [e] at x s2
   cases e':p'.H.g b with
   | list ys=>show p'.h.IsListIter _ _ _;exact (a.ρ b hl)▸x.at ki
   | dict es=>rw [e'] at t2;exact nomatch s2.trans t2.symm
   | _=>replace t1:=(e')▸t1;cases t1
  | dict es=>
   rw [e] at x s1 s2
   refine c4 x λds ep h1 h2=>?_
   cases e':p'.H.g b with
   | list ys=>replace t2:=(e')▸t2;exact nomatch t2.trans s2.symm
   | dict Yi=>
    rw [e'] at t1 t2
    have l:Yi.length=es.length:=by
     have:=congrArg List.length ((iK t1).2.symm.trans (iK s1).2)
     rwa [aaB,aaB] at this
    refine (bH ds ep ⟨?_,?_⟩)
    .rw [a.ρ b hl];exact (a.mv b hl).2 (Nat.succ.inj (t2.trans s2.symm)) _ h1
    .rw [a.ρ b hl,l];exact h2.at ki
   | _=>replace t1:=(e')▸t1;cases t1
  | _=>replace x:=(e)▸x;exact x.elim
 | rev b=>
  refine yL x λhl xs e hi x=>?_
  have s1:mC (p.H.g b)=some all:=st.1
  have t1:mC (p'.H.g b)=some all:=ye.1
  replace s1:=(e)▸s1
  refine ⟨aax hl a.le,?_⟩
  cases e':p'.H.g b with
  | list ys=>
   replace t1:=(e')▸t1
   rw [(List.reverse_inj.mp (aay (t1.trans s1.symm))),a.ρ b hl]
   exact ⟨xs,rfl,hi,x.at ki⟩
  | _=>replace t1:=(e')▸t1;cases t1
 | Gs m=>exact ⟨x.1,ki _ x.2⟩
end
section
variable {M:Mo} {k:Nat} {A:Around} {B:Addr->Prop} {p p':Pt} {sc:Scope} {env:Env} {loc loc':Loc} {T:Value->Shared->Prop} {x y z:X} {e f g:Expr} {q q':Pos}
theorem Fo {α β:Type} [DecidableEq α] (knd:PySem.KeyKind M.prog M.w α) (enc:β->AV) (dec:β->α) (m:Nat) (f:∀d e,mP M p d e->kk e.1=m->∃b,knd.is (dec b) d.key=true/\d.hash=knd.hash (dec b)/\e.1=enc b):
  ∀{ds:List DictEntry} {es:List (AV × AV)},L2 (mP M p) ds es->(∀e∈es,kk e.1=m)->∃kvs:List (α × Value),Pairs knd ds kvs/\(∀e∈ds,∃k,knd.is k e.key=true/\e.hash=knd.hash k)/\∃ts:List β,es.map (·.1)=ts.map enc/\kvs.map (·.1)=ts.map dec:=λl=>by
 induction l with
 | nil=>exact λzz=>⟨[],.nil,λzz h=>((aaU h).elim),[],rfl,rfl⟩
 | cons a l ih=>
  intro g
  refine Ar (ih λe he=>g e (.tail _ he)) λkvs h1 h2 ts e1 e2=>?_
  refine cU (f _ _ a (g _ (.head _))) λb i hh e=>?_
  exact ⟨(dec b,_)::kvs,.cons i rfl h1,λe he=>(aaH.mp he).elim (λe'=>e'▸⟨_,i,hh⟩) (h2 e),b::ts,by rw [aa4,aa4,e,e1],congrArg (_::·) e2⟩
theorem zG {α β:Type} [DecidableEq α] (knd:PySem.KeyKind M.prog M.w α) (enc:β->AV) (dec:β->α) (m:Nat) (inj:∀a b,dec a=dec b->a=b) (f:∀d e,mP M p d e->kk e.1=m->∃b,knd.is (dec b) d.key=true/\d.hash=knd.hash (dec b)/\e.1=enc b)
  {d:Addr} {ds:Array DictEntry} {ep:Nat} {es:List (AV × AV)} (D:j5 M p d ds ep es) (hk:∀e∈es,kk e.1=m):∃(kvs:List (α × Value)) (ts:List β),p.h.DictAt knd d kvs ep/\es.map (·.1)=ts.map enc/\kvs.map (·.1)=ts.map dec:=by
 refine Ar (Fo knd enc dec m f D.l hk) λkvs h1 h2 ts e1 e2=>?_
 refine (bH kvs ts ⟨(bH _ ds ⟨D.at_,⟨rfl,rfl,rfl⟩,rfl,λe he=>h2 e (Array.mem_toList_iff.mpr he),h1,?_⟩),e1,e2⟩)
 have nd:=D.nd
 rw [e1] at nd
 exact (e2)▸List.Pairwise.map _ (λa b q e=>q (inj _ _ e)) (List.Pairwise.of_map _ (λa b q e=>q (congrArg _ (e))) nd:ts.Nodup)
theorem nC {d:Addr} {ds:Array DictEntry} {ep:Nat} {es:List (AV × AV)} (D:j5 M p d ds ep es) (hk:∀e∈es,kk e.1=1):∃(kvs:List (Str × Value)) (ts:List String),p.h.DictAt (PySem.strKind M.prog M.w) d kvs ep/\es.map (·.1)=ts.map AV.str/\kvs.map (·.1)=ts.map Str.ofString:=
 zG (PySem.strKind M.prog M.w) AV.str Str.ofString 1 (λzz zz=>cE) (λ⟨dh,dk,dv⟩ (ek,ev) r h=>by
  refine wV (oE h) λt e0=>?_;subst e0
  obtain ⟨⟨u,rfl⟩,_,rfl,_⟩:=r
  exact ⟨t,beq_self_eq_true _,rfl,rfl⟩) D hk
theorem Hi {d:Addr} {ds:Array DictEntry} {ep:Nat} {es:List (AV × AV)} (D:j5 M p d ds ep es) (hk:∀e∈es,kk e.1=2):∃(kvs:List (Int × Value)) (ts:List Int),p.h.DictAt (intKind M.prog M.w) d kvs ep/\es.map (·.1)=ts.map AV.int/\kvs.map (·.1)=ts.map id:=
 zG (intKind M.prog M.w) AV.int id 2 (λzz zz h=>h) (λ⟨dh,dk,dv⟩ (ek,ev) r h=>by
  refine wV (te h) λt e0=>?_;subst e0
  obtain ⟨⟨u,rfl⟩,_,rfl,_⟩:=r
  exact ⟨t,decide_eq_true rfl,rfl,rfl⟩) D hk
structure It (M:Mo) (p:Pt) (z:Src) (all:List AV) (n it i:Nat):Prop where
 at_:nU p it i z
 st:ck z all n p.H
 pv:lA M p it
 lt:it < p.h.objs.size
noncomputable abbrev isA (it:Addr):Addr->Prop:=λx=>x=it
theorem wo {it:Addr} {h:Heap} {t:Nat} (R:Rep M p) (pv:lA M p it) (he:Heap.ExtBut it p.h h) (hz:p.h.objs.size<=h.objs.size):After M (isA it) p (p.at h t):= .gen R hz (λx e=>e▸pv) λx o e n=>he x o n e
theorem fV {α:Type} {l:List α} {i:Nat} (h:¬i < l.length):l[i]? =none:=List.getElem?_eq_none (aaP.mp h)
theorem Bg {n:Int} {i:Nat} (h:(i:Int) < n):(aN 0 n)[i]? =some (.int (i:Int)):=by
 unfold aN
 rw [abc,List.getElem?_range (Int.lt_toNat.mpr (tS h (Int.sub_zero _).symm))]
 show some (AV.int (0+(i:Int)))=_
 rw [Int.zero_add]
theorem tw (hh:A.handled=none) (R:Rep M p) {z:Src} {all:List AV} {n it i:Nat} (I:It M p z all n it i) {T:Option Value->Shared->Prop} (item:∀v av h t,all[i]? =some av->VR (p.at h t) v av->nU (p.at h t) it (i+1) z->After M (isA it) p (p.at h t)->T (some v) (p.at h t).s)
  (fin:∀h t,all[i]? =none->After M (isA it) p (p.at h t)->T none (p.at h t).s):wpAny M.m A (pyNext (.ref it)) T bL p.s:=by
 have Ch:all[i]? =none->wpAny M.m A (pyNext (.ref it)) (λo s'=>o=none/\∃h',s'={p.s with heap:=h'}/\Heap.ExtBut it p.h h') bL p.s->wpAny M.m A (pyNext (.ref it)) T bL p.s:=λhi hw=>
  aP (wpAny_mono hw (λo s' ⟨e1,h',e2,he⟩ hz=>by subst e1 e2;exact fin h' p.s.toks hi (wo R I.pv he hz)) λzz zz z=>z.elim)
 have am:∀{h':Heap} {t:Nat},Heap.SameBut it p.h h'->After M (isA it) p (p.at h' t):=λhs=>wo R I.pv hs.extBut (aaS hs.1.symm)
 obtain ⟨x,⟨s1,s2⟩,pv,_⟩:=I
 cases z with
 | tup xs=>
  refine aS x λt items h1 h2 h3=>?_
  cases s1
  have ne:t≠it:=λe=>h2.elim λo h=>pv.tup o (e▸h.1) ⟨h.2.1,items,h.2.2⟩
  by_cases hi:i < all.length
  .refine aw (h3.get (aaR hi)) λv hv rv=>?_
   replace hv:=(abh)▸hv
   refine next_tuple_item h1 h2 hv λh' pT b9=>?_
   have a:=am (t:=p.s.toks) b9
   exact item v _ h' _ (aaR hi) (a.rel rv) (bH t items ⟨pT,h2.extBut b9.extBut ne,a.o4 h3⟩) a
  .exact Ch (fV hi) (next_tuple_end hh h1 h2 (by rw [<-aB h3] at hi;exact Array.getElem?_eq_none (aaP.mp hi)) λh' he=>⟨rfl,h',rfl,he⟩)
 | obj b=>
  obtain ⟨hl,x⟩:=x
  have s1:eX (p.H.g b)=some all:=s1
  cases hg:p.H.g b with
  | list xs=>
   rw [hg] at x s1
   cases s1
   obtain ⟨vs,k1,l⟩:=aK R hl hg
   by_cases hi:i < all.length
   .refine aw (l.l.get (aaR hi)) λv hv rv=>?_
    rw [abh] at hv
    refine wpAny_pyNext_list_item x (cj l.at_) hv λh' pT b9=>?_
    have a:=am (t:=p.s.toks) b9
    exact item v _ h' _ (aaR hi) (a.rel rv) ⟨hl,by show MG _ _ _ _ (p.H.g b);rw [hg];exact pT⟩ a
   .exact Ch (fV hi) (wpAny_pyNext_list_end hh x (cj l.at_) (by rw [<-aB l.l] at hi;exact Array.getElem?_eq_none (aaP.mp hi)) λh' he=>⟨rfl,h',rfl,he⟩)
  | dict es=>
   rw [hg] at x s1
   refine XG (iK s1) λhk e0=>?_;subst e0
   refine c4 x λds ep ho hit=>?_
   refine ga (cF R hl hg) λzz BW Qu D=>?_
   cases ho.symm.trans D.at_
   refine aS (nC D hk) λkvs ts hd e1 e2=>?_
   have l1:es.length=ts.length:=by have:=congrArg List.length e1;rwa [aaB,aaB] at this
   have l2:kvs.length=ts.length:=by have:=congrArg List.length e2;rwa [aaB,aaB] at this
   rw [l1,<-l2] at hit
   rw [e1] at Ch item
   by_cases hi:i < ts.length
   .have hk:(kvs.map (·.1))[i]? =some (Str.ofString ts[i]):=by rw [e2,abc,aaR hi];rfl
    rw [abc] at hk
    obtain ⟨⟨k,u⟩,YJ,rfl⟩:=bm hk
    refine wpAny_pyNext_dict_item hit hd YJ λkey h' uP pT b9=>?_
    have a:=am (t:=p.s.toks) b9
    refine item key (.str ts[i]) h' _ (by rw [abc,aaR hi];rfl) ?_ ⟨hl,by show MG _ _ _ _ (p.H.g b);rw [hg];exact (bH ds ep ⟨(b9.2 _ (λe=>pv.own ⟨b,hl,.inl e.symm⟩)).trans ho,by rw [l1,<-l2];exact pT⟩)⟩ a
    cases key with
    | str s t=>exact ⟨t,by rw [beq_iff_eq.mp (uP:(s==Str.ofString ts[i])=true)]⟩
    | _=>exact Bool.noConfusion uP
   .exact Ch (fV (by rw [aaB];exact hi)) (wpAny_pyNext_dict_end hh hit hd (fV (by rw [l2];exact hi)) λh' he=>⟨rfl,h',rfl,he⟩)
  | _=>rw [hg] at x;exact x.elim
 | rev b=>
  refine yL x λhl xs hg X9 hit=>?_
  have s1:mC (p.H.g b)=some all:=s1
  rw [hg] at s1
  obtain rfl:=aay s1
  refine aq (aK R hl hg) λvs k1 l=>?_
  by_cases hi:i < xs.length
  .have LH:xs.reverse[i]? =some (xs.reverse[i]'((List.length_reverse).symm▸hi)):=aaR _
   refine aw (l.l.get ((show xs[xs.length - 1 - i]? =xs.reverse[i]? by rw [List.getElem?_reverse hi]).trans LH)) λv hv rv=>?_
   rw [abh] at hv
   rw [show (xs.length:Int) - 1 - (i:Int)=((xs.length - 1 - i:Nat):Int) from N2 hi] at hit
   refine wpAny_pyNext_rev_item hit (cj l.at_) hv λh' pT b9=>?_
   have a:=am (t:=p.s.toks) b9
   exact item v _ h' _ LH (a.rel rv) ⟨hl,xs,hg,hi,by rw [show (xs.length:Int) - 1 - ((i+1:Nat):Int)=((xs.length - 1 - i:Nat):Int) - 1 from Oi hi];exact pT⟩ a
  .rw [show (xs.length:Int) - 1 - (i:Int)= -1 from by rw [Nat.le_antisymm (aaP.mp hi) X9,Y3,Int.sub_self];rfl] at hit
   exact Ch (fV (by rw [List.length_reverse];exact hi)) (wpAny_pyNext_rev_end hh hit λh' he=>⟨rfl,h',rfl,he⟩)
 | Gs m=>
  obtain rfl:=aay s1
  by_cases hi:(i:Int) < m
  .refine wpAny_pyNext_range_item x.2 (Int.sub_pos_of_lt hi) λh' pT b9=>?_
   exact item _ _ h' _ (Bg hi) ⟨p.s.toks,rfl⟩ ⟨hi,by rw [show ((i+1:Nat):Int)=(i:Int)+1 from rfl,show m - ((i:Int)+1)=m - i - 1 from (Int.sub_sub _ _ 1).symm];exact pT⟩ (am (t:=p.s.toks+1) b9)
  .refine Ch (fV ?_) (wpAny_pyNext_range_end hh x.2 (Int.sub_nonpos_of_le (Int.not_lt.mp hi)) λh' he=>⟨rfl,h',rfl,he⟩)
   unfold aN
   rw [aaB,List.length_range]
   exact λx=>hi (tS (Int.lt_toNat.mp x) (Int.sub_zero _))
end
section
variable {M:Mo} {k:Nat} {A:Around} {B:Addr->Prop} {p p':Pt} {sc:Scope} {env:Env} {loc loc':Loc} {x y z:X} {e f g:Expr} {q q':Pos}
theorem xK {o:Obj} {c:String} (h:o.cls= .type c) (hc:c≠"tuple"):¬gX o:=λt=>hc (Value.type.inj (h.symm.trans t.1))
noncomputable def qz (M:Mo) (ik:IK) (iY:XL) (sc:Scope) (e:Expr):Prop:=∀{k:Nat} {A:Around} {p:Pt} {env:Env} {loc:Loc} {F:HP->Src->Prop},nv M k A p sc env loc->iY (Γc M k) loc p.H (λvs H=>Mj ik vs (F H))->(∀H z,F H z->∃all,z.vals H=some all)->∀T:Value->Shared->Prop,
 (∀p' it z all,F p'.H z->It M p' z all (z.gW p'.H) it 0->p.h.objs.size<=it->After M c6 p p'->T (.ref it) p'.s)->wpAny M.m A (eval e env) (λx s1=>wpAny M.m A (pyIter x) T bL s1) bL p.s
theorem pQ {o:Obj} {c:String} {t:Nat} (R:Rep M p) (hc:o.cls= .type c) (hn:c≠"tuple") (hf:o.isFreed=false):lA M (p.at (p.h.push o) t) p.h.objs.size/\p.h.objs.size < (p.h.push o).objs.size/\(p.h.push o).get? p.h.objs.size=some o/\After M c6 p (p.at (p.h.push o) t):=
 have g:=Heap.get?_push_size p.h hf
 ⟨⟨R.new (aaF _),R.sz,λo' e=>by cases g.symm.trans e;exact xK hc hn⟩,by rw [Heap.size_push];exact aaC _,g,.grow R (.push _ _)⟩
theorem xw (W:Wd M) (h:aA M x sc e):qz M .plain (XL.o x) sc e:=λ{zz zz zz zz zz F} z hq hv T hT=>h z hq _ λp1 v av w r a=>by
 cases av with
 | tup xs=>
  have w:F p1.H (.tup xs):=w
  obtain ⟨all,e⟩:=hv _ _ w
  obtain rfl:=aay e
  refine aS r.tup λy vs e0 it hr=>?_;subst e0
  refine iter_tuple it ?_
  refine mo (pQ (t:=p1.s.toks) (o:={cls:= .type "tuple_iterator",data:= .fields #[.ref y,rawInt 0]}) a.rep rfl (by decide) rfl) λpv lt g b=>?_
  exact hT (p1.at _ _) _ (.tup xs) xs w ⟨(bH _ _ ⟨⟨_,g,rfl,rfl⟩,sj b.tup it,b.o4 hr⟩),⟨rfl,rfl⟩,pv,lt⟩ a.size (a.trans b)
 | ref c=>
  have w:F p1.H (.obj c):=w
  obtain ⟨all,e⟩:=hv _ _ w
  obtain ⟨rfl,la⟩:=r
  have s1:eX (p1.H.g c)=some all:=e
  cases hg:p1.H.g c with
  | list xs=>
   refine aq (aK a.rep la hg) λvs k1 l=>?_
   refine wpAny_pyIter_list (cj l.at_) ?_
   refine mo (pQ (t:=p1.s.toks) (o:={cls:= .type "list_iterator",data:= .fields #[.ref (p1.W.ρ c),rawInt 0]}) a.rep rfl (by decide) rfl) λpv lt g b=>?_
   exact hT (p1.at _ _) _ (.obj c) all w ⟨⟨la,by show MG _ _ _ _ (p1.H.g c);rw [hg];exact ⟨_,g,rfl,rfl⟩⟩,⟨e,rfl⟩,pv,lt⟩ a.size (a.trans b)
  | dict es=>
   rw [hg] at s1
   refine ga (cF a.rep la hg) λzz ds ep D=>?_
   refine aS (nC D (iK s1).1) λkvs ts hd e1 e2=>?_
   have l:kvs.length=es.length:=by have h1:=congrArg List.length e1;have h2:=congrArg List.length e2;rw [aaB,aaB] at h1 h2;exact h2.trans h1.symm
   refine wpAny_pyIter_dict (kQ W a.rep la (fF hg)) hd ?_
   rw [l]
   refine mo (pQ (t:=p1.s.toks) (o:={cls:= .type "dict_keyiterator",data:= .fields #[.ref (p1.W.ρ c),rawInt 0,rawInt es.length,rawInt ep]}) a.rep rfl (by decide) rfl) λpv lt g b=>?_
   exact hT (p1.at _ _) _ (.obj c) all w ⟨⟨la,by show MG _ _ _ _ (p1.H.g c);rw [hg];exact (bH ds ep ⟨Heap.get?_push_of_some _ D.at_,_,g,rfl,rfl⟩)⟩,⟨e,rfl⟩,pv,lt⟩ a.size (a.trans b)
  | _=>rw [hg] at s1;exact nomatch s1
 | _=>exact w.elim
end
section
variable {M:Mo} {k:Nat} {A:Around} {B:Addr->Prop} {p p':Pt} {sc:Scope} {env:Env} {loc loc':Loc} {x y z:X} {e f g:Expr} {q q':Pos}
theorem wS {a b:Int} (h1:0<=a) (h2:a<=b) (h3:b<=lim):Builtin.Range.small a b 1=true/\Builtin.Range.rangeSize a b 1=b - a:=by
 have e:(lim:Nat)=1000000:=rfl
 have fit:∀x:Int,0<=x->x<=1000000->Builtin.Range.rangeFitsLong x=true:=λx h1 h2=>by
  unfold Builtin.Range.rangeFitsLong
  simp only [Bool.and_eq_true,decide_eq_true_eq]
  exact ⟨abd (by decide) h1,Int.lt_of_le_of_lt h2 (by decide)⟩
 have sz:Builtin.Range.rangeSize a b 1=b - a:=by
  rw [rangeSize_one];split
  .rfl
  .exact (Int.sub_eq_zero_of_eq (Int.le_antisymm (Int.not_lt.mp ‹_›) h2)).symm
 refine ⟨?_,sz⟩
 unfold Builtin.Range.small
 rw [sz,fit a h1 (abd h2 (abd h3 (wZ (aaS e):))),fit b (abd h1 h2) (abd h3 (wZ (aaS e):)),fit 1 (by decide) (by decide),fit (b - a) (Int.sub_nonneg_of_le h2) (abd (Int.sub_le_self _ h1) (abd h3 (wZ (aaS e):)))]
 have:b+(1 - 1)=b:=Int.add_zero _
 simp only [Bool.true_and,Bool.or_eq_true,beq_iff_eq]
 right
 rw [if_pos (by decide),this]
 exact fit b (abd h1 h2) (abd h3 (wZ (aaS e):))
theorem jD.o (hp:bh e=true) (h:aA M x sc e):jD M (XL.o x) sc [e]:=⟨λe' he=>aaK.mp he▸hp,gJ hp h kV,λh=>nomatch h⟩
theorem C4 (R:Rep M p) {a b:Int} {t u v:Tok} {r:Addr} (hr:IsRange p.s.heap r a b 1 t u v) (h1:0<=a) (h2:a<=b) (h3:b<=lim) {T:Value->Shared->Prop}
  (hT:∀it h,IsRangeIter h it a (b - a) 1->lA M (p.at h p.s.toks) it->it < h.objs.size->p.h.objs.size<=it->After M c6 p (p.at h p.s.toks)->T (.ref it) (p.at h p.s.toks).s):wpAny M.m A (pyIter (.ref r)) T bL p.s:=by
 have sm:=wS h1 h2 h3
 refine wpAny_pyIter_range hr sm.1 ?_
 rw [sm.2]
 refine mo (pQ (t:=p.s.toks) (o:={cls:= .type "range_iterator",data:= .fields #[rawInt a,rawInt (b - a),rawInt 1]}) R rfl (by decide) rfl) λpv lt g b=>?_
 exact hT _ _ g pv lt (aaF _) b
theorem yr (W:Wd M) {n:Str} {q1:Pos} (hn:n=Str.ofString "range") (hg:aU sc n=true) (hp:bh e=true) (h:aA M x sc e):qz M .aE (XL.o x) sc (.Call (.Name n q1) [e] [] q):=λ{zz zz zz zz zz F} z hq hv T hT=>
 uV W (b:="range") (by decide) hg hn (v:= .type "range") (by rw [hn];kernel_rfl) (.inl ⟨_,rfl⟩) (.o hp h) z hq λp1 vs bG w r a=>by
  refine bU (iq w) λv e0 w=>?_;subst e0
  refine bU (aG w) λm e1 w=>?_;subst e1
  obtain ⟨hm,w⟩:=fu w
  have hm:0<=m/\m<=lim:=by
   cases m with
   | ofNat m=>exact ⟨aa0 m,Int.ofNat_le.mpr (Nat.ble_eq.mp hm)⟩
   | negSucc=>exact absurd hm aaE
  refine cf r.aX λu l e2 t0 hl=>?_;subst e2;obtain ⟨t,rfl⟩:=t0
  clear r;obtain rfl:=hl.df
  refine call_range_1 ?_
  have a1:After M c6 p1 (p1.at _ _):= .grow (t:=p1.s.toks+1+1) a.rep (.push _ {cls:= .type "range",data:= .fields #[.int 0 p1.s.toks,.int m t,.int 1 (p1.s.toks+1)]})
  exact C4 a1.rep (IsRange.new _ _ _ _ _ _ _) (Int.le_refl _) hm.1 hm.2 λit h hi pv lt le b=>hT _ it (.Gs m) (aN 0 m) w ⟨⟨hm.1,hi⟩,⟨rfl,rfl⟩,pv,lt⟩ (aaw (a.trans a1).size le) (a.trans (a1.trans b))
theorem Dk (W:Wd M) {n:Str} {q1:Pos} (hn:n=Str.ofString "reversed") (hg:aU sc n=true) (hp:bh e=true) (h:aA M x sc e):qz M .rev (XL.o x) sc (.Call (.Name n q1) [e] [] q):=λ{zz zz zz zz zz F} z hq hv T hT=>
 uV W (b:="reversed") (by decide) hg hn (v:= .type "reversed") (by rw [hn];kernel_rfl) (.inl ⟨_,rfl⟩) (.o hp h) z hq λp1 vs bG w r a=>by
  refine bU (iq w) λv e0 w=>?_;subst e0
  refine bU (bK w) λc e1 w=>?_;subst e1
  refine cf r.aX λu l e2 t0 hl=>?_;subst e2;obtain ⟨rfl,lc⟩:=t0
  clear r;obtain rfl:=hl.df
  obtain ⟨all,e⟩:=hv _ _ w
  have s1:mC (p1.H.g c)=some all:=e
  cases hg:p1.H.g c with
  | list xs=>
   refine aq (aK a.rep lc hg) λws k1 l=>?_
   refine call_reversed_list (cj l.at_) ?_
   refine mo (pQ (t:=p1.s.toks) (o:=revObj (p1.W.ρ c) ((ws.size:Int) - 1)) a.rep rfl (by decide) rfl) λpv lt g b=>?_
   refine wpAny_pyIter_revIter ⟨_,g,rfl,rfl⟩ (hT (p1.at _ _) _ (.rev c) all w ⟨⟨lc,xs,hg,abp _,_,g,rfl,?_⟩,⟨e,rfl⟩,pv,lt⟩ a.size (a.trans b))
   rw [aB l.l]
   show _=Data.fields #[_,rawInt ((xs.length:Int) - 1 - 0)]
   rw [Int.sub_zero]
   rfl
  | _=>rw [hg] at s1;exact nomatch s1
theorem BI {it i:Nat} {z:Src} (x:nU p it i z) {T:Value->Shared->Prop} (h:T (.ref it) p.s):wpAny M.m A (pyIter (.ref it)) T bL p.s:=by
 cases z with
 | tup xs=>refine c4 x λt items h1 zz=>?_;exact wpAny_pyIter_tupleiter (t:=t) (i:=i) h1 h
 | obj a=>
  obtain ⟨_,x⟩:=x
  revert x
  cases p.H.g a with
  | list=>exact λx=>wpAny_pyIter_listiter x h
  | dict=>exact λt0=>c4 t0 λzz zz zz x=>wpAny_pyIter_keyiter x h
  | _=>exact λx=>x.elim
 | rev a=>refine yL x λzz zz zz zz x=>?_;exact wpAny_pyIter_revIter x h
 | Gs n=>exact wpAny_pyIter_rangeiter x.2 h
noncomputable def FL:List String:=["tuple_iterator","list_iterator","dict_keyiterator","list_reverseiterator","range_iterator"]
theorem nU.cls {it i:Nat} {z:Src} (x:nU p it i z):∃o c,p.h.get? it=some o/\o.cls= .type c/\c∈FL:=by
 cases z with
 | tup xs=>refine c4 x λt items t0 zz=>?_;refine cU t0 λo ho hc zz=>?_;exact ⟨o,_,ho,hc,by decide⟩
 | obj a=>
  obtain ⟨_,x⟩:=x
  revert x
  cases p.H.g a with
  | list=>exact λt1=>cU t1 λo ho hc zz=>(bH o _ ⟨ho,hc,by decide⟩)
  | dict=>exact λ⟨_,_,_,o,ho,hc,_⟩=>(bH o _ ⟨ho,hc,by decide⟩)
  | _=>exact λx=>x.elim
 | rev a=>refine Br x λzz zz zz zz o ho hc zz=>?_;exact ⟨o,_,ho,hc,by decide⟩
 | Gs n=>exact (bH _ _ ⟨x.2,rfl,by decide⟩)
theorem nU.iv {it i:Nat} {z:Src} (x:nU p it i z):∀o,p.h.get? it=some o->¬gX o:=λo e=>by
 refine aS x.cls λo' c h1 h2 h3=>?_
 obtain rfl:=aay (h1.symm.trans e)
 exact xK h2 λq=>(by decide:"tuple" ∉ FL) (q▸h3)
theorem AC {it i:Nat} {z:Src} (x:nU p it i z) {tg:Tg} (ht:D6 sc e=some tg) {v:Value} {T:Unit->Shared->Prop} (h:T () p.s):wpAny M.m A (letOwnedTupleGo e (.ref it) v) T bL p.s:=by
 cases e with
 | Name=>exact wpAny_pure h
 | Tuple=>
  cases v with
  | ref a=>
   refine aS x.cls λo c h1 h2 h3=>?_
   refine wpAny_bind (wpAny_load h1 ?_)
   rw [h2]
   cases hd:o.data with
   | fields vs=>
    dsimp only
    rw [(by decide:∀c∈FL,(["enumerate","zip","dict_itemiterator","dict_reverseitemiterator","odict_iterator","itertools.zip_longest","itertools.pairwise"].contains c)=false) c h3]
    exact wpAny_pure h
   | _=>exact wpAny_pure h
  | _=>exact wpAny_pure h
 | _=>exact nomatch ht
end
section
variable {M:Mo} {k:Nat} {A:Around} {B:Addr->Prop} {p p':Pt} {sc:Scope} {env:Env} {loc loc':Loc} {x y z:X} {e f g:Expr} {q q':Pos}
theorem tI {α:Type} {t:Sem α} {T:α->Shared->Prop} {E:Value->Shared->Prop} {s:Shared} (h:wpAny M.m A t T bL s):wpAny M.m A t T E s:=wpAny_mono h (λzz zz h=>h) λzz zz z=>z.elim
theorem qT {v:Value} (h:ig e=true):foldedSetIterable e env v=pure v:=by
 cases e<;>first | rfl | exact (aaE h).elim
theorem lO {l:List AV} {i:Nat} {v:AV} (h:l[i]? =some v):l.drop i=v::l.drop (i+1):=by
 refine uh (aaZ.mp h) λhl he=>?_
 rw [List.drop_eq_getElem_cons hl,he]
theorem Df {tg:Tg} {ik:IK} {iY:XL} {b:SL} {t:Expr} {body:List Stmt} (hs:ig e=true) (ht:D6 sc t=some tg) (hi:qz M ik iY sc e) (hb:jH M b sc body):eE M (S.bW tg ik iY b) sc (.For t e body [] q):=λ{k A p env loc Q} z hq=>.eq (arm_exec_For ..) λT hT=>
 wpAny_bind (wpAny_standAt (wpAny_bind (wpAny_mono (hi z hq (λH z h=>(bE h).imp λall h=>h.1) (λZN s0=>wpAny M.m A (runOwn (.forLoop t ZN body [] env) env) T bL s0) λp0 it zz all w I0 ge a0=>by
  refine aw (bE w) λTh e0 w=>?_
  obtain rfl:=aay (I0.st.1.symm.trans e0)
  refine wpAny_runOwn (h:=none) ?_
  have lt:∀{x},fO sc env x->x≠it:=λh e=>aaP.mpr ge (e▸z.eo.ltB h)
  have Wq:¬isA it env.locals:=lt (.inl rfl)
  have QP:∀x c,env.cells.lookup x=some c->¬isA it c:=λx c hc (e:c=it)=>aaP.mpr ge (e▸(z.eo.cells x c hc).1.elim λzz h=>k6 h)
  have fin:∀{f fl l p1},Q fl l p1.H->W9 p1 f fl->aI M p1 sc env l->After M (λx=>fO sc env x\/x=it) p p1->T f p1.s:=λq r eo a=>hT _ _ _ _ q r eo (a.drop λx hx=>hx.imp id λ(e:x=it)=>e▸ge)
  refine codeAny_forLoop_any (A:=A.mark none) (λn s1=>∃p1 l i,s1=p1.s/\n=all.length+1 - i/\k9 (b (Γc M k)) tg (ck zz all (zz.gW p0.H)) (all.drop i) l p1.H Q/\aI M p1 sc env l/\It M p1 zz all (zz.gW p0.H) it i/\After M (λx=>fO sc env x\/x=it) p p1)
   (λn s1 t1=>jn t1 λp1 l i es en w BJ I a1=>?_) (all.length+1) (cZ p0 loc 0 ⟨rfl,rfl,w,z.eo.after a0,I0,a0.no⟩)
  clear t1;subst es
  refine tI (tw z.cx.hd a1.rep I (λv av h t e1 rv xd a2=>?_) λh t e1 a2=>?_)
  .rw [lO e1] at w
   refine aw (bE w) λl' SX w=>?_
   refine tI (AC xd ht (tI (wr (BJ.ju a2 Wq QP) a2.rep z.cx.hd ht rv SX λh3 t3 GB a3=>tI (hb (p:=(p1.at h t).at h3 t3) ⟨z.cx,GB,a3.rep⟩ w _ λp4 f fl l4 q4 r4 Lw a4=>?_))))
   have RU:=a3.trans a4
   have MV:=(a1.trans (a2.weaken λx hx=>.inr hx)).trans (RU.weaken λx hx=>.inl hx)
   have ltI:=aax I.lt a2.size
   have Jk:=a2.own I.lt I.pv.own
   have next:Ta (ck zz all (zz.gW p0.H)) (k9 (b (Γc M k)) tg (ck zz all (zz.gW p0.H)) (all.drop (i+1))) Q .next l4 p4.H->∃m,m < n/\∃p1 l i,p4.s=p1.s/\m=all.length+1 - i/\k9 (b (Γc M k)) tg (ck zz all (zz.gW p0.H)) (all.drop i) l p1.H Q/\aI M p1 sc env l/\It M p1 zz all (zz.gW p0.H) it i/\After M (λx=>fO sc env x\/x=it) p p1:=λt0=>qk t0 λWv qf=>
    have Nt:=xd.keep RU Jk (λh=>lt h rfl) I.st Wv
    ⟨all.length+1 - (i+1),by have:=sW e1;exact tS (Nat.sub_lt_sub_left (Nat.lt_succ_of_lt this) (aaC _)) en.symm,p4,l4,i+1,rfl,rfl,qf,Lw,⟨Nt,Wv,⟨RU.own ltI Jk,I.pv.hi,Nt.iv⟩,aax ltI RU.size⟩,MV⟩
   cases fl with
   | next=>obtain rfl:=show f= .next from r4;exact next q4
   | cont=>obtain rfl:=show f= .cont from r4;exact next q4
   | brk=>obtain rfl:=show f= .brk from r4;exact fin (fl:= .next) q4 rfl Lw MV
   | ret av=>refine bU r4 λv e2 rv=>?_;subst e2;exact fin (fl:= .ret av) q4 ⟨v,rfl,rv⟩ Lw MV
  .rw [List.drop_eq_nil_of_le (List.getElem?_eq_none_iff.mp e1)] at w
   refine be (arm_execs_nil ..) ?_
   exact wpAny_pure (fin (fl:= .next) w rfl (BJ.ju a2 Wq QP) (a1.trans (a2.weaken λx hx=>.inr hx))))
  (λx s1 h1=>by
   rw [qT hs]
   exact wpAny_bind (wpAny_pure (wpAny_bind (wpAny_standAt (wpAny_bind (wpAny_holding h1)))))) λzz zz z=>z)))
theorem yS {c:X} {b:SL} {body:List Stmt} (hc:d6 M c sc e) (hb:jH M b sc body):eE M (S.ij c b) sc (.While e body [] q):=λ{k A p env loc Q} z hq=>.eq (arm_exec_While ..) λT hT=>wpAny_bind (wpAny_standAt (wpAny_runOwn (h:=none) (by
 refine c4 hq λJ n hJ turn=>?_
 refine codeAny_whileLoop (A:=A.mark none) (λn s1=>∃p1 l,s1=p1.s/\J n l p1.H/\aI M p1 sc env l/\After M (fO sc env) p p1) (λn s1 t0=>sx t0 λp1 l es j BJ a1=>?_) n (bH p loc ⟨rfl,hJ,z.eo,.refl z.rep⟩)
 clear t0;subst es
 refine tI (hc (F:=λzz=>N4 _ _ _ _) ⟨z.cx,BJ,a1.rep⟩ (turn n l p1.H j) _ λp2 v tb UC hf a2=>?_)
 have xZ:=BJ.after a2
 have O2:=a1.trans a2.no
 clear UC;cases tb
 .rw [if_neg aaE];refine be (arm_execs_nil ..) ?_
  exact wpAny_pure (hT p2 _ .next l hf rfl xZ O2)
 .rw [if_pos rfl]
  refine tI (hb ⟨z.cx,xZ,a2.rep⟩ hf _ λp3 f fl l3 q3 r3 GB a3=>?_)
  have Lq:=O2.trans a3
  cases fl with
  | next=>cases (show f= .next from r3);exact q3.imp λm j=>⟨j.1,p3,l3,rfl,j.2,GB,Lq⟩
  | cont=>cases (show f= .cont from r3);exact q3.imp λm j=>⟨j.1,p3,l3,rfl,j.2,GB,Lq⟩
  | brk=>obtain rfl:=show f= .brk from r3;exact hT p3 _ .next l3 q3 rfl GB Lq
  | ret av=>refine bU r3 λv e0 rv=>?_;subst e0;exact hT p3 _ (.ret av) l3 q3 ⟨v,rfl,rv⟩ GB Lq)))
end
section
variable {M:Mo} {k:Nat} {A:Around} {B:Addr->Prop} {p p':Pt} {sc aZ:Scope} {env:Env} {loc loc':Loc} {x y z:X} {e f g:Expr} {q q':Pos}
structure gI (sc aZ:Scope) (tg:Tg):Prop where
 kind:aZ.kind= .function
 uniq:∀p∈aZ.names,aZ.names.lookup p.1=some p.2
 loc:∀x,aZ.names.lookup x=some .local->x=(".0":Str)\/∃y∈gF tg,x=Str.ofString y
 free:∀x,aZ.names.lookup x=some .free->sc.names.lookup x=some .cell\/sc.names.lookup x=some .free
 only:∀x k,aZ.names.lookup x=some k->k= .local\/k= .free\/k= .globalImplicit
theorem AS {o:Option NameKind} (h:Pf o=true):o=some .cell\/o=some .free:=by
 cases o with
 | none=>exact absurd h aaE
 | some k=>cases k<;>first | exact .inl rfl | exact .inr rfl | exact (aaE h).elim
theorem vj {tg:Tg} (h:DL sc aZ tg=true):gI sc aZ tg:=by
 refine qk (aaV.mp h) λh1 h2=>?_
 have h2:=aaX.mp h2
 have on:∀{x k},aZ.names.lookup x=some k->As sc aZ tg (x,k)=true:=λhx=>h2 _ (bx hx)
 refine ⟨beq_iff_eq.mp h1,λp hp=>beq_iff_eq.mp (aaV.mp (h2 p hp)).1,λx hx=>?_,λx hx=>AS (aaV.mp (on hx)).2,λx k hx=>?_⟩
 .refine (Bool.or_eq_true_iff.mp (aaV.mp (on hx)).2).imp beq_iff_eq.mp λh=>?_
  refine aw (List.any_eq_true.mp h) λy hy e=>?_
  exact ⟨y,hy,beq_iff_eq.mp e⟩
 .have:=(aaV.mp (on hx)).2
  cases k<;>first | exact .inl rfl | exact .inr (.inl rfl) | exact .inr (.inr rfl) | exact (aaE this).elim
theorem sZ:∀(names:List (Str × NameKind)) (acc:List (Str × Addr)),(∀x∈names,x.2= .free->∃c,env.cells.lookup x.1=some c)->
  ∃cl,(forIn (m:=Sem) names acc λ(p:Str × NameKind) (cs:List (Str × Addr))=>(if (p.2==NameKind.free)=true then cellOf env p.1 >>= λa=>pure (ForInStep.yield ((p.1,a)::cs)) else pure (ForInStep.yield cs)))=pure cl/\
  (∀p∈cl,p∈acc\/((p.1,NameKind.free)∈names/\env.cells.lookup p.1=some p.2))/\(∀p∈acc,p∈cl)/\∀x,(x,NameKind.free)∈names->∃c,(x,c)∈cl
 | [],acc,_=>⟨acc,rfl,λp hp=>.inl hp,λzz hp=>hp,λzz hx=>(aaU hx).elim⟩
 | (n,kd)::r,acc,h=>by
  have hr:=λx hx=>h x (.tail _ hx)
  rw [List.forIn_cons]
  cases q:kd==NameKind.free with
  | true=>
   obtain rfl:=beq_iff_eq.mp q
   obtain ⟨c,hc⟩:=h _ (.head _) rfl
   have:cellOf env n=pure c:=by unfold cellOf;rw [hc]
   refine jv (sZ r ((n,c)::acc) hr) λcl e a1 a2 a3=>?_
   refine ⟨cl,?_,λp hp=>(a1 p hp).elim (λhp=>(aaH.mp hp).elim (λe=>.inr (e▸⟨.head _,hc⟩)) .inl) λhp=>.inr ⟨.tail _ hp.1,hp.2⟩,λp hp=>a2 p (.tail _ hp),λx hx=>(aaH.mp hx).elim (λe=>⟨c,by cases e;exact a2 _ (.head _)⟩) (a3 x)⟩
   rw [if_pos rfl,this]
   exact e
  | false=>
   refine jv (sZ r acc hr) λcl e a1 a2 a3=>?_
   refine ⟨cl,?_,λp hp=>(a1 p hp).imp id λz=>⟨.tail _ z.1,z.2⟩,a2,λx hx=>(aaH.mp hx).elim (λe=>by cases e;cases q) (a3 x)⟩
   rw [if_neg aaE]
   exact e
theorem i4 {α β:Type} [BEq α] [LawfulBEq α] {a:α} {b:β}:∀{l:List (α × β)},(a,b)∈l->∃c,l.lookup a=some c
 | (x,y)::r,h=>by
  rw [List.lookup_cons]
  cases q:a==x with
  | true=>exact ⟨y,rfl⟩
  | false=>exact (aaH.mp h).elim (λe=>by cases e;rw [beq_self_eq_true] at q;exact Bool.noConfusion q) i4
theorem Kg {tg:Tg} (eo:aI M p sc env loc) (c:gI sc aZ tg):∃cl,closureFor aZ env=pure cl/\(∀x c,cl.lookup x=some c->aZ.names.lookup x=some .free/\env.cells.lookup x=some c)/\∀x,aZ.names.lookup x=some .free->∃c,cl.lookup x=some c:=by
 refine jv (sZ aZ.names [] λx hx e=>(c.free _ (e▸c.uniq x hx)).elim (λq=>eo.KY _ (.inl (eo.z6 _ q))) λq=>eo.KY _ (eo.EM _ q)) λcl e a1 a2 a3=>?_
 refine ⟨cl,?_,λx a hx=>(a1 _ (bx hx)).elim (λh=>(aaU h).elim) λh=>⟨c.uniq _ h.1,h.2⟩,λx hx=>(a3 x (bx hx)).elim λa h=>i4 h⟩
 rw [closureFor]
 rw [e]
 rfl
theorem mF {α β:Type} [BEq α] [LawfulBEq α] (g:α->β->β) (y:α):∀(l:List (α × β)),(l.map λp=>(p.1,g p.1 p.2)).lookup y=(l.lookup y).map (g y)
 | []=>rfl
 | (a,b)::r=>by
  rw [aa4,List.lookup_cons,List.lookup_cons,mF g y r]
  cases q:y==a with
  | true=>rw [beq_iff_eq.mp q];rfl
  | false=>rfl
noncomputable def w6 (env:Env) (n:Str) (k:NameKind):NameKind:=if (k== .free&&env.scope.kind== .function&&env.kindOf n==some .cell) then .cell else k
theorem nQ (y:Str):(relabel aZ env).names.lookup y=(aZ.names.lookup y).map (w6 env y):=by
 rw [<-mF]
 refine congrArg (List.lookup y) (abq λp hp=>?_)
 dsimp only
 unfold w6
 split<;>rfl
noncomputable def sA (tg:Tg) (loc:Loc):Loc:=λx=>if x∈gF tg then .unset else loc x
theorem m8 {tg:Tg} {x:String} (h:sA tg loc x≠ .unset):x ∉ gF tg/\sA tg loc x=loc x:=by
 unfold sA at h ⊢
 by_cases q:x∈gF tg
 .rw [if_pos q] at h;exact absurd rfl h
 .exact ⟨q,if_neg q⟩
theorem Be {tg:Tg} {cl:List (Str × Addr)} {C:Addr} {m:Str->Option Value} (eo:aI M p sc env loc) (c:gI sc aZ tg) (h1:∀x c,cl.lookup x=some c->aZ.names.lookup x=some .free/\env.cells.lookup x=some c)
  (h2:∀x,aZ.names.lookup x=some .free->∃c,cl.lookup x=some c) (hC:p.h.Ns C m) (ho:¬Own p C) (hb:M.h0.objs.size<=C):aI M p aZ (compEnvC aZ cl C env) (sA tg loc):=by
 have kd:∀x,(compEnvC aZ cl C env).kindOf x=(aZ.names.lookup x).map (w6 env x):=λx=>nQ x
 have Tb:∀x k,(compEnvC aZ cl C env).kindOf x=some k->(aZ.names.lookup x=some .free/\(k= .cell\/k= .free))\/(aZ.names.lookup x=some k/\k≠ .free/\k≠ .cell):=λx k h=>by
  rw [kd] at h
  refine aw (bm h) λk' q h=>?_
  rcases c.only x k' q with rfl | rfl | rfl
  .subst h;exact .inr ⟨q,(nomatch ·),(nomatch ·)⟩
  .refine .inl ⟨q,?_⟩
   rw [<-h]
   unfold w6
   split
   .exact .inl rfl
   .exact .inr rfl
  .subst h;exact .inr ⟨q,(nomatch ·),(nomatch ·)⟩
 have back:∀x,(compEnvC aZ cl C env).kindOf x=some .cell\/(compEnvC aZ cl C env).kindOf x=some .free->aZ.names.lookup x=some .free:=λx h=>h.elim (λh=>(Tb x _ h).elim (·.1) λz=>absurd rfl z.2.2) λh=>(Tb x _ h).elim (·.1) λz=>absurd rfl z.2.1
 refine ⟨c.kind,eo.gl,eo.bi,λx h=>by rw [kd,h];rfl,λx h=>?_,λx h=>?_,λx h=>by rw [kd,h];rfl,⟨m,hC,λx hx h0 hk=>?_⟩,⟨ho,hb⟩,λx a ha=>eo.cells x a (h1 x a ha).2,λx y a ha hb=>eo.apart x y a (h1 x a ha).2 (h1 y a hb).2,λx hx hk=>?_,λx hk=>h2 x (back x hk)⟩
 .rcases c.only x _ h with e | e | e<;>cases e
 .rw [kd,h]
  show some (w6 env x .free)=_\/some (w6 env x .free)=_
  unfold w6
  split
  .exact .inl rfl
  .exact .inr rfl
 .have nt:=m8 hx
  exact (Tb _ _ hk).elim (λz=>z.2.elim (λe=>absurd e (by decide)) λe=>absurd e (by decide)) λz=>(c.loc _ z.1).elim (λe=>absurd e h0) λt0=>aw t0 λy hy e=>absurd (cE e▸hy) nt.1
 .have hf:=back _ hk
  have nt:=m8 hx
  rw [nt.2] at hx ⊢
  refine uh (h2 _ hf) λa ha=>?_
  refine c4 (eo.mS x hx ((c.free _ hf).elim (λq=>.inl (eo.z6 _ q)) λq=>eo.EM _ q)) λa' v e1 e2=>?_
  cases (h1 _ _ ha).2.symm.trans e1
  exact (bH a v ⟨ha,e2⟩)
theorem aI.sub {l1 l2:Loc} (e:aI M p sc env l2) (h:∀x,l1 x≠ .unset->l2 x=l1 x):aI M p sc env l1:=
 {e with
  ns:=e.ns.imp λm hm=>⟨hm.1,λx h1 h0 h2=>h x h1▸hm.2 x (h x h1▸h1) h0 h2⟩
  mS:=λx h1 h2=>h x h1▸e.mS x (h x h1▸h1) h2}
theorem gL:∀(xs:List String) {vs:List AV} {l1 l2 r:Loc},(∀y,y ∉ xs->l1 y=l2 y)->d8 xs vs l1=some r->d8 xs vs l2=some r/\∀y,y ∉ xs->r y=l1 y
 | [],[],l1,l2,r,h,e=>by
  obtain rfl:=aay e
  exact ⟨congrArg some (funext λy=>(h y (λh=>(aaU h).elim)).symm),λzz zz=>rfl⟩
 | x::xs,v::vs,l1,l2,r,h,e=>by
  have g:=gL xs (l1:=l1.upd x v) (l2:=l2.upd x v) (λy hy=>by
   by_cases q:y=x
   .rw [q,pL,pL]
   .rw [gK q,gK q];exact h y λm=>(aaH.mp m).elim q hy) e
  exact ⟨g.1,λy hy=>(g.2 y λm=>hy (.tail _ m)).trans (gK λq=>hy (q▸ .head _))⟩
theorem yJ {tg:Tg} {v:AV} (h:gj tg v loc=some loc'):gj tg v (sA tg loc)=some loc'/\∀y,y ∉ gF tg->loc' y=loc y:=by
 have ag:∀y,y ∉ gF tg->loc y=sA tg loc y:=λy hy=>(if_neg hy).symm
 cases tg with
 | nm x=>exact gL [x] (vs:=[v]) ag h
 | tup xs=>
  cases v with
  | tup vs=>exact gL xs ag h
  | _=>cases h
noncomputable def fR (M:Mo) (x:aj->PC) (sc:Scope) (es:List Expr):Prop:=∀{k:Nat} {A:Around} {p:Pt} {env:Env} {loc:Loc} {F:KB},nv M k A p sc env loc->x (Γc M k) loc p.H F->∀T:Bool->Shared->Prop,(∀p' b,F b p'.H->After M c6 p p'->T b p'.s)->
 wpAny M.m A (forIn es true λc r=>if r=true then do let ok <-isTrue c env (eval c env);pure (ForInStep.yield ok) else pure (ForInStep.yield r)) T bL p.s
theorem yk:fR M X.yes sc []:=λ{zz zz p zz zz zz} z hq T hT=>wpAny_pure (hT p true hq (.refl z.rep))
theorem xL (h:d6 M x sc e):fR M (X.bN x X.yes) sc [e]:=λ{k zz p zz loc F} z hq T hT=>by
 refine be (List.forIn_cons ..) ?_;rw [if_pos rfl]
 exact wpAny_bind (wpAny_bind (h (F:=λzz=>N3 (X.yes (Γc M k)) loc F) z hq _ λp1 v b zz hf a=>wpAny_pure (wpAny_pure (hT p1 b (match b,hf with
  | true,hf=>hf
  | false,hf=>hf) a))))
end
section
variable {M:Mo} {k:Nat} {A:Around} {B:Addr->Prop} {p p':Pt} {sc aZ:Scope} {env:Env} {loc loc':Loc} {x y z:X} {e f g:Expr} {q q':Pos}
theorem ww {elt target iter:Expr} {ifs:List Expr} {scope:Scope} {pos:Pos} {it acc:Value} {Rr:Result->Shared->Prop} (I:Nat->Shared->Prop)
  (turn:∀n s,I n s->wpAny M.m A (pyNext it) (λr s₁=>match r with
   | none=>Rr (.ok .next) s₁
   | some v=>wpAny M.m A (letOwnedTupleGo target it v) (λzz WL=>wpAny M.m A (assign target env v) (λzz s₂=>
     wpAny M.m A (forIn ifs true λc r=>if r=true then do let ok <-isTrue c env (eval c env);pure (ForInStep.yield ok) else pure (ForInStep.yield r)) (λok s₃=>
      if ok=true then wpAny M.m A (eval elt env) (λx s₄=>wpAny M.m A (call (.builtin "list.append") [acc,x]) (λzz s₅=>∃m,m < n/\I m s₅) bL s₄) bL s₃
      else ∃m,m < n/\I m s₃) bL s₂) bL WL) bL s₁) bL s)
  (n:Nat) {s:Shared} (h:I n s):codeAny M.m A (.compLoop (.ListComp elt [⟨target,iter,ifs,0⟩] scope pos) 0 it acc env) Rr s:=by
 refine codeAny_loop rfl I (λn s hI=>?_) n h
 show wpAny _ A ((compTurn (.ListComp elt [⟨target,iter,ifs,0⟩] scope pos) 0 it acc env).onRaise (λx=>do noteFrame x env;theTreesLotGoes x)) _ _ s
 refine wpAny_noted ?_
 refine be (compTurn_list ..) ?_
 refine wpAny_bind (wpAny_standAt (wpAny_bind (tI (wpAny_mono (turn n s hI) (λr s₁ h₁=>?_) λzz zz z=>z.elim))))
 cases r with
 | none=>exact wpAny_pure h₁
 | some v=>
  refine wpAny_bind (wpAny_mono h₁ (λzz WL YV=>wpAny_bind (wpAny_mono YV (λzz s₂ h₂=>wpAny_bind (wpAny_mono h₂ (λok s₃ h₃=>?_) λzz zz z=>z.elim)) λzz zz z=>z.elim)) λzz zz z=>z.elim)
  cases ok
  .exact wpAny_pure ⟨rfl,h₃⟩
  .exact wpAny_bind (wpAny_bind (wpAny_mono h₃ (λx s₄ h₄=>wpAny_bind (wpAny_mono h₄ (λzz s₅ h₅=>wpAny_pure (wpAny_pure ⟨rfl,h₅⟩)) λzz zz z=>z.elim)) λzz zz z=>z.elim))
structure AccAt (M:Mo) (p:Pt) (D:Addr) (xs:List AV):Prop where
 own:¬Own p D
 hi:M.h0.objs.size<=D
 at_:∃vs k,p.h.get? D=some (m5 vs k)/\L2 (VR p) vs.toList xs
theorem AccAt.after {D:Addr} {xs:List AV} (x:AccAt M p D xs) (a:After M B p p') (hb:¬B D):AccAt M p' D xs:=
 have ⟨vs,k,e,r⟩:=x.at_
 ⟨a.own (Heap.lt_size e) x.own,x.hi,vs,k,a.keep _ _ e x.own hb,a.o4 r⟩
theorem yc {tg:Tg} {elt:X} {ifs:aj->PC} {t qp:Expr} {fs:List Expr} {pos:Pos} (cx:Cx k A) (co:gI sc aZ tg) (ht:D6 aZ t=some tg) (he:aA M elt aZ e) (hf:fR M ifs aZ fs) {cl:List (Str × Addr)} {zz:Src} {all:List AV} {st it C D:Nat} {Q:KL} {Rr:Result->Shared->Prop}
  (m7:∀x c,cl.lookup x=some c->c < it) (SD:it < D) (Ro:D < C) (qf:iZ (elt (Γc M k)) (ifs (Γc M k)) tg (ck zz all st) loc all p.H [] Q)
  (eo:aI M p aZ (compEnvC aZ cl C env) (sA tg loc)) (I0:It M p zz all st it 0) (hD:AccAt M p D []) (R:Rep M p)
  (done:∀p' xs,Q xs p'.H->xs.length<=lim->AccAt M p' D xs->(∃m,p'.h.Ns C m)->¬Own p' C->After M (λx=>x=it\/x=D\/x=C) p p'->Rr (.ok .next) p'.s):
  codeAny M.m A (.compLoop (.ListComp e [⟨t,qp,fs,0⟩] aZ pos) 0 (.ref it) (.ref D) (compEnvC aZ cl C env)) Rr p.s:=by
 have LQ:it≠C:=aaJ (aaA SD Ro)
 have WR:D≠C:=aaJ Ro
 have LR:it≠D:=aaJ SD
 have eB:∀x,fO aZ (compEnvC aZ cl C env) x->x=C:=λx hx=>hx.elim id λt5=>aw t5 λy hy zz=>by rcases co.only y _ hy with e | e | e<;>cases e
 have VZ:∀x c,(compEnvC aZ cl C env).cells.lookup x=some c->¬isA it c:=λx c hc=>aaJ (m7 x c hc)
 refine ww (λn s1=>∃p1 acc i,s1=p1.s/\n=all.length+1 - i/\acc.length<=lim/\iZ (elt (Γc M k)) (ifs (Γc M k)) tg (ck zz all st) loc (all.drop i) p1.H acc Q/\aI M p1 aZ (compEnvC aZ cl C env) (sA tg loc)/\It M p1 zz all st it i/\AccAt M p1 D acc/\After M (λx=>x=it\/x=D\/x=C) p p1)
  (λn s1 t4=>tD t4 λp1 acc i es en al w BJ I ac a1=>?_) (all.length+1) (cZ p ([]) 0 ⟨rfl,rfl,abp _,qf,eo,I0,hD,.refl R⟩)
 subst es
 refine tw cx.hd a1.rep I (λv av h t1 e1 rv xd a2=>?_) λh t1 e1 a2=>?_
 .rw [lO e1] at w
  refine aw (bE w) λl' SX w=>?_
  refine qk (yJ SX) λTs Ua=>?_
  have xZ:=BJ.ju a2 (λq=>LQ q.symm) VZ
  refine AC xd ht (wr xZ a2.rep cx.hd ht rv Ts λh3 t3 GB a3=>hf (p:=(p1.at h t1).at h3 t3) ⟨cx,GB,a3.rep⟩ w _ λp4 b q4 a4=>?_)
  have Lw:=GB.after a4
  have Vs:=((ac.after a2 λq=>LR q.symm).after a3 λq=>WR (eB _ q)).after a4 id
  have W5:After M (isA C) (p1.at h t1) p4:=(a3.weaken eB).trans a4.no
  have O2:=a1.trans (a2.weaken λx hx=>.inl hx)
  have ltI:=aax I.lt a2.size
  have Jk:=a2.own I.lt I.pv.own
  have sub:∀{p5},aI M p5 aZ (compEnvC aZ cl C env) l'->aI M p5 aZ (compEnvC aZ cl C env) (sA tg loc):=λx=>x.sub λy hy=>(Ua y (m8 hy).1).trans (m8 hy).2.symm
  have Wm:∀{p5},After M (λx=>x=D\/x=C) (p1.at h t1) p5->ck zz all st p5.H->It M p5 zz all st it (i+1):=λa s5=>have h5:=xd.keep a Jk (λq=>q.elim LR LQ) I.st s5;⟨h5,s5,⟨a.own ltI Jk,I.pv.hi,h5.iv⟩,aax ltI a.size⟩
  have lt:all.length+1 - (i+1) < n:=by have:=sW e1;exact tS (Nat.sub_lt_sub_left (Nat.lt_succ_of_lt this) (aaC _)) en.symm
  cases b with
  | false=>
   have MV:=W5.weaken (B':=λx=>x=D\/x=C) λx hx=>.inr hx
   exact ⟨_,lt,p4,acc,i+1,rfl,rfl,al,q4.2,sub Lw,Wm MV q4.1,Vs,O2.trans (MV.weaken λx hx=>.inr hx)⟩
  | true=>
   refine he ⟨cx,Lw,a4.rep⟩ q4 _ λp5 v5 ZI t2 r5 a5=>w5 t2 λZp VJ Zl=>?_
   have OL:=Vs.after a5 id
   refine c4 OL.at_ λvs n5 hl hr=>?_
   refine wpAny_list_append_plain (items:=vs) ⟨n5,hl⟩ (λh' t0 b9=>uh t0 λn' YQ=>?_) ((aB hr)▸cV (aaI VJ))
   have pD:∀x,isA D x->lA M p5 x:=λx e=>by cases e;exact ⟨OL.own,OL.hi,ou hl (by decide:Value.type "list"≠ .type "tuple")⟩
   have a6:After M (isA D) p5 (p5.at h' p5.s.toks):= .gen a5.rep (aaS b9.1.symm) pD λx o e n=>(b9.2 x n).trans e
   have Xa:After M (λx=>x=D\/x=C) (p1.at h t1) (p5.at h' p5.s.toks):=((W5.weaken λx hx=>.inr hx).trans a5.no).trans (a6.weaken λx hx=>.inl hx)
   exact ⟨_,lt,p5.at h' p5.s.toks,acc++[ZI],i+1,rfl,rfl,by rw [aaD];exact VJ,Zl,sub ((Lw.after a5).ju a6 (λq=>WR q.symm) (λx c hc=>aaJ (aaA (m7 x c hc) SD))),Wm Xa Zp,⟨OL.own,OL.hi,vs.push v5,n',YQ,by rw [Array.toList_push];exact (a6.o4 hr).snoc (a6.rel r5)⟩,O2.trans (Xa.weaken λx hx=>.inr hx)⟩
 .replace w:=(List.drop_eq_nil_of_le (List.getElem?_eq_none_iff.mp e1))▸w
  have xZ:=BJ.ju a2 (λq=>LQ q.symm) VZ
  exact done _ acc w al (ac.after a2 λq=>LR q.symm) (xZ.ns.imp λm h=>h.1) xZ.mW.1 (a1.trans (a2.weaken λx hx=>.inl hx))
theorem uK {tg:Tg} {elt:X} {ifs:aj->PC} {t qp:Expr} {fs:List Expr} {pos:Pos} (cx:Cx k A) (co:gI sc aZ tg) (ht:D6 aZ t=some tg) (he:aA M elt aZ e) (hf:fR M ifs aZ fs) {cl:List (Str × Addr)} {zz:Src} {all:List AV} {st it:Nat} {Q:KL} {RR:Value->Addr->Result->Shared->Prop}
  (h1:∀x c,cl.lookup x=some c->aZ.names.lookup x=some .free/\env.cells.lookup x=some c) (h2:∀x,aZ.names.lookup x=some .free->∃c,cl.lookup x=some c) (m7:∀x c,cl.lookup x=some c->c < it)
  (qf:iZ (elt (Γc M k)) (ifs (Γc M k)) tg (ck zz all st) loc all p.H [] Q) (eo:aI M p sc env loc) (I0:It M p zz all st it 0) (R:Rep M p)
  (done:∀D C p' xs,p.h.objs.size<=D->p.h.objs.size<=C->D≠C->Q xs p'.H->xs.length<=lim->AccAt M p' D xs->(∃m,p'.h.Ns C m)->¬Own p' C->After M (λx=>x=it\/p.h.objs.size<=x) p p'->RR (.ref D) C (.ok .next) p'.s):
  wpAny M.m A (newList []) (λacc s3=>wpAny M.m A (newFunctionEnv aZ env.globals cl [] env.qual none .none (some env)) (λQm s4=>
   codeAny M.m A (.compStart (.ListComp e [⟨t,qp,fs,0⟩] aZ pos) 0 (.ref it) acc {Qm with scope:=relabel aZ env}) (RR acc Qm.locals) s4) bL s3) bL p.s:=by
 have Nl:∀x∈aZ.names,x.2≠ .cell:=λx hx e=>by
  have:=co.uniq x hx
  rcases co.only _ _ this with q | q | q<;>rw [e] at q<;>cases q
 refine wpAny_newObj_type (wpAny_newFunctionEnv Nl (λy hy=>(aaU hy).elim) (λh₁ Nu Id=>?_) co.kind)
 dsimp only at Nu Id ⊢
 have hC:(p.h.push (m5 #[] 0)).objs.size=p.h.objs.size+1:=Heap.size_push ..
 have hle:p.h.objs.size<=(p.h.push (m5 #[] 0)).objs.size:=hC▸aba _
 have eD:=Id.extBut p.h.objs.size _ (by show _≠(p.h.push (m5 #[] 0)).objs.size;rw [hC];exact aaJ (aaC _)) (Heap.get?_push_of_some _ (Heap.get?_push_size (o:=m5 #[] 0) _ rfl))
 have gr:dJ p.h h₁:=⟨λx o e=>Id.extBut x o (λq=>aaP.mpr hle (q▸Heap.lt_size e)) (Heap.get?_push_of_some _ (Heap.get?_push_of_some _ e)),by
  rw [Id.1,Heap.size_push];exact abx hle⟩
 have a1:After M c6 p (p.at h₁ p.s.toks):= .grow R gr
 have Ko:=I0.at_.keep a1 I0.pv.own id I0.st I0.st
 have loop:codeAny M.m A (.compLoop (.ListComp e [⟨t,qp,fs,0⟩] aZ pos) 0 (.ref it) (.ref p.h.objs.size) (compEnvC aZ cl (p.h.push (m5 #[] 0)).objs.size env)) (RR (.ref p.h.objs.size) (p.h.push (m5 #[] 0)).objs.size) (p.at h₁ p.s.toks).s:=
  yc cx co ht he hf m7 I0.lt (by rw [hC];exact aaC _) qf (Be (eo.after a1) co h1 h2 Nu (R.new hle) (aaw R.sz hle)) (⟨Ko,I0.st,⟨I0.pv.own,I0.pv.hi,Ko.iv⟩,aax I0.lt gr.2⟩) ⟨R.new (aaF _),R.sz,#[],0,eD,.nil⟩ a1.rep
   λp' xs q hz ac hn no a=>done _ _ p' xs (aaF _) hle (by rw [hC];exact aaJ (aaC _)) q hz ac hn no (a1.no.trans (a.weaken λx hx=>hx.imp id λhx=>hx.elim (λ(e:x=_)=>e▸aaF _) λ(e:x=_)=>e▸hle))
 exact codeAny_compStart_list loop (tI (BI (p:=p.at h₁ p.s.toks) Ko loop))
end
section
variable {M:Mo} {k:Nat} {A:Around} {B:Addr->Prop} {p p':Pt} {sc aZ:Scope} {env:Env} {loc loc':Loc} {x y z:X} {e f g:Expr} {q q':Pos} {tg:Tg} {ik:IK} {iY:XL} {elt:X} {ifs:aj->PC} {t qp:Expr} {fs:List Expr} {pos p0:Pos}
theorem ER {use:Option (Value->Sem Unit)} (co:gI sc aZ tg) (ht:D6 aZ t=some tg) (hs:ig qp=true) (hi:qz M ik iY sc qp) (he:aA M elt aZ e) (hf:fR M ifs aZ fs) (z:nv M k A p sc env loc) {Q:KV} (hq:X.aC elt tg ik iY ifs (Γc M k) loc p.H Q) {T:Value->Shared->Prop}
  (done:∀D C p' av,p.h.objs.size<=C->(∃m,p'.h.Ns C m)->lA M p' C->Q av p'.H->VR p' (.ref D) av->After M c6 p p'->compPost M.m A bL use T (.ref D) C (.ok .next) p'.s):
  wpAny M.m A (comprehension (.ListComp e [⟨t,qp,fs,0⟩] aZ pos) aZ env p0 (newList []) false (eval qp env) use) T bL p.s:=by
 refine cU (Kg z.eo co) λcl c1 c2 c3=>?_
 refine wpAny_comprehension_free rfl (λv=>qT hs) c1 co.kind (λx hx e=>by rw [co.uniq x hx,e]) (hi z hq (λH z h=>(bE h).imp λall h=>h.1) _ λp1 it zz all w I0 ge a1=>?_)
 refine aw (bE w) λTh e0 w=>?_
 obtain rfl:=aay (I0.st.1.symm.trans e0)
 refine uK (RR:=λacc C=>compPost M.m A bL use T acc C) z.cx co ht he hf c2 c3 (λx c hc=>aax ((z.eo.cells _ _ (c2 x c hc).2).1.elim λzz h=>k6 h) ge) w (z.eo.after a1) I0 a1.rep λD C p' xs hD hC Ro q' hz ac hn no a2=>?_
 have ML:=aaw a1.size hD
 refine c4 ac.at_ λvs n hl hr=>?_
 have t:=After.tell (o:= .list xs) (a1.no.trans a2) ML ML ac.own ac.own z.rep.sz ⟨rfl,vs,n,hl,wU.mono .tell hr,hz⟩
 have Q9:=aaw a1.size hC
 refine done D C (p'.tell D D (.list xs)) (.ref p'.n) Q9 hn ⟨?_,aaw z.rep.sz Q9,hn.elim λm h=>Lc h⟩ q'.run t.2 (t.1.drop λx hx=>.inr (hx.elim (λ(e:x=it)=>e▸ge) (aaw a1.size)))
 rintro ⟨a,ha,e⟩
 have e:C=(p'.W.put p'.n D D).ρ a\/C=(p'.W.put p'.n D D).δ a:=e
 by_cases qa:a=p'.n
 .rw [qa,oQ,r7] at e
  exact Ro (e.elim Eq.symm Eq.symm)
 .have Pd:a < p'.n:=Nat.lt_of_le_of_ne (Nat.le_of_lt_succ ha) qa
  rw [fK Pd,gM Pd] at e
  exact no ⟨a,Pd,e⟩
theorem vY {C:Addr} {h':Heap} {t:Nat} (R:Rep M p) (pv:lA M p C) (hs:Heap.SameBut C p.h h'):After M (isA C) p (p.at h' t):= .gen R (aaS hs.1.symm) (λx (e:x=C)=>e▸pv) λx o e n=>(hs.2 x n).trans e
theorem wP (co:gI sc aZ tg) (ht:D6 aZ t=some tg) (hs:ig qp=true) (hi:qz M ik iY sc qp) (he:aA M elt aZ e) (hf:fR M ifs aZ fs):aA M (X.aC elt tg ik iY ifs) sc (.ListComp e [⟨t,qp,fs,0⟩] aZ pos):=λz hq=>.eq (eval_ListComp ..) λT hT=>
 ER (use:=none) co ht hs hi he hf z hq λD C p' av hC t0 pv q r a=>uh t0 λm hn=>⟨m,hn,λh' b9=>have b:=vY (t:=p'.s.toks) a.rep pv b9;hT (p'.at h' p'.s.toks) _ av q (b.rel r) ((a.no.trans b).drop λx (e:x=C)=>.inr (e▸hC))⟩
theorem su {n:Str} {v:String} (hx:x6 sc n=some v) (co:gI sc aZ tg) (ht:D6 aZ t=some tg) (hs:ig qp=true) (hi:qz M ik iY sc qp) (he:aA M elt aZ e) (hf:fR M ifs aZ fs):
  eE M (S.set v (X.aC elt tg ik iY ifs)) sc (.Assign [.Name n q'] (.ListComp e [⟨t,qp,fs,0⟩] aZ pos) q):=by
 intro k A p env loc Q z hq T hT
 obtain ⟨b,hb⟩:∃b,swapsWith (.ListComp e [⟨t,qp,fs,0⟩] aZ pos) (some (.Name n q')) q.line env=pure b:=⟨_,rfl⟩
 cases b
 .exact wpAny_Assign_Name (wP co ht hs hi he hf z hq _ λp1 v av w r a=>kj (z.eo.after a) a.rep hx r λh t eo b=>hT _ .next .next _ w rfl eo (a.no.trans b)) hb
 .refine be (exec_Assign_Name_used _ _ _ _ hb) ?_
  refine wpAny_bind (wpAny_standAt (wpAny_bind ?_))
  refine wpAny_bind (wpAny_mono (ER (T:=λzz s'=>T .next s') (use:=some (assign (.Name n q') env)) co ht hs hi he hf z hq λD C p1 av hC t0 pv w r a=>uh t0 λm hn=>?_) (λzz s' hq=>wpAny_pure (wpAny_pure hq)) λzz zz z=>z)
  refine wpAny_assign_Name (kj (z.eo.after a) a.rep hx r λh2 t2 xZ a2=>?_)
  have nB:¬fO sc env C:=λh=>aaP.mpr hC (z.eo.ltB h)
  have Xp:=xP hn λo e=>a2.keep _ o e pv.own nB
  refine ⟨m,Xp,λh' b9=>?_⟩
  have a3:=vY (p:=p1.at h2 t2) (t:=t2) a2.rep ⟨pv.own,pv.hi,Lc Xp⟩ b9
  exact hT ((p1.at h2 t2).at h' t2) .next .next _ w rfl (xZ.ju a3 (λ(e:env.locals=C)=>nB (.inl e.symm)) λy c hc (e:c=C)=>aaP.mpr hC (e▸(z.eo.cells _ _ hc).1.elim λzz h=>k6 h))
   (After.drop (B:=λx=>fO sc env x\/x=C) ((a.no.trans (a2.weaken λx hx=>.inl hx)).trans (a3.weaken λx hx=>.inr hx)) λx hx=>hx.imp id λ(e:x=C)=>e▸hC)
end
section
variable {M:Mo} {k:Nat} {A:Around} {B:Addr->Prop} {p p':Pt} {Q:KV} {T:Value->Shared->Prop}
theorem jF (R:Rep M p) (hT:AA M p Q T) {i:Int} (q:Q (.int i) p.H) {u:Tok} {t:Nat}:T (.int i u) (p.at p.h t).s:=hT (p.at p.h t) _ _ q ⟨u,rfl⟩ (.toks R t)
theorem Pk (W:Wd M) (R:Rep M p) {v:Value} {av:AV} (r:VR p v av) (hq:P2 av p.H Q):Ev M A p (call (.builtin "len") [v]) Q:=λT hT=>by
 cases av with
 | tup xs=>
  refine qk hq λhz hq=>?_
  refine aS r.tup λx vs e0 it l=>?_;subst e0
  refine len_tuple it ((aB l)▸rV hz) ?_
  exact (aB l)▸jF R hT hq
 | ref a=>
  obtain ⟨rfl,la⟩:=r
  have h:=hq.run
  cases hg:p.H.g a with
  | list xs=>
   replace h:=(hg)▸h
   refine aq (aK R la hg) λus n l=>?_
   refine call_len_list (cj l.at_) ((aB l.l)▸rV l.len) ?_
   exact (aB l.l)▸jF R hT h
  | dict es=>
   replace h:=(hg)▸h
   refine ga (cF R la hg) λzz ds ep D=>?_
   have ty:=MF D
   refine call_function_entry kind_len plain_len entry_len (args_len1 _) ?_
   refine wpAny_bind (m:=oneArg "len" _) (wpAny_pure ?_)
   refine wpAny_bind (m:=callSpecial? (.ref (p.W.ρ a)) (Str.ofString "__len__")) (wpAny_callSpecial?_slot (name:=Str.ofString "__len__") ty PySem.F.slot_dict_len (wpAny_call_entry PySem.F.slot_dict_len ty PySem.F.entry_dict_len ?_ (PySem.F.args_dict_len_1 _)))
   show wpAny _ _ (dictSize (p.W.ρ a) >>= _) _ _ p.s
   refine wpAny_bind (wpAny_bind (wpAny_dictEntries D.at_ rfl (wpAny_pure ?_)))
   show wpAny _ _ (Builtin.Dict.pendingCount (p.W.ρ a) >>= _) _ _ p.s
   refine wpAny_bind (wpAny_pendingCount_other (kQ W R la (fF hg)) (wpAny_bind (wpAny_mkInt (wpAny_pure ⟨_,rfl,?_⟩))))
   rw [(show ds.size=es.length from D.l.len),show ((es.length:Int)+((0:Nat):Int))=(es.length:Int) from Int.add_zero _]
   refine wpAny_bind (wpAny_holding (wpAny_pure (wpAny_bind (wpAny_letGo ?_))))
   refine mz (Int.not_lt.mpr (aa0 _)) ?_
   show wpAny _ _ (if ((es.length:Nat):Int) ≥ 2 ^ 63 then _ else _) _ _ _
   refine mz (Int.not_le.mpr (rV D.len)) ?_
   exact wpAny_bind (wpAny_mkInt (wpAny_pure ⟨_,rfl,jF R hT h⟩))
  | _=>replace h:=(hg)▸h;exact h.elim
 | _=>exact hq.elim
theorem Od (R:Rep M p) {v:Value} {av:AV} (r:VR p v av) (hq:Nm av p.H Q):Ev M A p (call (.builtin "abs") [v]) Q:=λT hT=>by
 refine bU (aG hq) λi e0 hq=>?_;subst e0
 obtain ⟨t,rfl⟩:=r
 refine call_abs_int λu tk=>?_
 exact (show (if i < 0 then -i else i)=i.natAbs by split;exact (Int.ofNat_natAbs_of_nonpos (Int.le_of_lt ‹_›)).symm;exact (Int.natAbs_of_nonneg (Int.not_lt.mp ‹_›)).symm)▸jF R hT hq
theorem jN (R:Rep M p) (hT:AA M p Q T) {i:Int} (q:Q (.int i) p.H) {u:Tok} {h:Heap} {t:Nat} (g:dJ p.h h):T (.int i u) (p.at h t).s:=hT (p.at h t) _ _ q ⟨u,rfl⟩ (.grow R g)
theorem Qr (hh:A.handled=none) (R:Rep M p) {v u:Value} {x y:AV} (r1:VR p v x) (r2:VR p u y) (hq:Pe x y p.H Q):Ev M A p (call (.builtin "min") [v,u]) Q:=λT hT=>by
 refine bU (aG hq) λi e0 h1=>?_;subst e0
 refine bU (aG h1) λj e1 h=>?_;subst e1
 obtain ⟨t,rfl⟩:=r1;obtain ⟨t',rfl⟩:=r2
 refine aP (min_two_ints hh λh' tk hk hz=>?_)
 by_cases c:j < i
 .rw [if_pos c] at h ⊢;exact jN R hT h ⟨hk,hz⟩
 .rw [if_neg c] at h ⊢;exact jN R hT h ⟨hk,hz⟩
theorem Na (hh:A.handled=none) (R:Rep M p) {v u:Value} {x y:AV} (r1:VR p v x) (r2:VR p u y) (hq:Om x y p.H Q):Ev M A p (call (.builtin "max") [v,u]) Q:=λT hT=>by
 refine bU (aG hq) λi e0 h1=>?_;subst e0
 refine bU (aG h1) λj e1 h=>?_;subst e1
 obtain ⟨t,rfl⟩:=r1;obtain ⟨t',rfl⟩:=r2
 refine aP (max_two_ints hh λh' tk hk hz=>?_)
 by_cases c:j > i
 .rw [if_pos c] at h ⊢;exact jN R hT h ⟨hk,hz⟩
 .rw [if_neg c] at h ⊢;exact jN R hT h ⟨hk,hz⟩
theorem GO (R:Rep M p) {v:Value} {av:AV} (r:VR p v av) (hq:EA av p.H Q):Ev M A p (call (.type "tuple") [v]) Q:=λT hT=>by
 refine bU (bK hq) λa e0 h=>?_;subst e0
 obtain ⟨rfl,la⟩:=r
 refine aw (bZ h.run) λxs hg h=>?_
 refine aq (aK R la hg) λus n l=>?_
 refine aP (call_tuple_list (cj l.at_) (λh' hk hz=>?_) ((aB l.l)▸cV l.len))
 have g:dJ p.h (h'.push {cls:= .type "tuple",data:= .seq us}):=⟨λx o e=>Heap.get?_push_of_some _ (hk x o e),hz⟩
 exact hT (p.at _ p.s.toks) _ (.tup xs) h (.rO ⟨_,Heap.get?_push_size _ rfl,rfl,_,rfl⟩ (wU.mono (.grow g.tup) l.l)) (.grow R g)
theorem lB:Slot "bytes" "__bytes__" "bytes.__bytes__":=
 .of (owner:="bytes") (n:="__bytes__") (by rw [typeLookup_type,builtinLookup_eq_fast];kernel_rfl) (by decide+kernel) (by decide+kernel) (by decide+kernel) (by first | exact .inl (by decide+kernel) | exact .inr (by decide+kernel)) (by rw [isSubtype_type];kernel_rfl)
theorem px {b:Array UInt8} {t:Tok} {E:Value->Shared->Prop} {s:Shared} (h:T (.bytes b t) s):codeAny M.m A (.call (.builtin "bytes.__new__") ⟨[.type "bytes",.bytes b t],[]⟩) (wants T E) s:=by
 refine codeAny_call_builtin PySem.F.bm_plain PySem.F.bm_entry (wpAny_of_eq (PySem.F.bm_newCall _) ?_)
 unfold Builtin.«bytes.__new__»
 refine wpAny_bind (wpAny_pure (bm_if_false rfl (wpAny_bind (wpAny_of_eq PySem.F.bm_sub (bm_if_false rfl (wpAny_bind (wpAny_of_eq (PySem.F.bm_bind _) ?_)))))))
 refine wpAny_bind (wpAny_pure (wpAny_bind (wpAny_pure (bm_if_false rfl (wpAny_bind (wpAny_specialOf (PySem.W.typeIs_bytes _ _ _) lB.lookup (wpAny_bind (wpAny_rule (wpAny_bind (wpAny_typeOf (T:="bytes") (PySem.W.typeIs_bytes _ _ _) (bm_if_true rfl ?_)))))))))))
 exact wpAny_of_eq (a:= .done (.ret (.bytes b t))) (by rfl) h
theorem HZ (R:Rep M p) {v:Value} {av:AV} (r:VR p v av) (hq:Ez av p.H Q):Ev M A p (call (.type "bytes") [v]) Q:=λT hT=>by
 cases av with
 | bytes b=>
  obtain ⟨t,rfl⟩:=r
  refine callType_codes (Q₁:=λobj s₁=>obj= .bytes b.toArray t/\s₁=p.s) PySem.F.bm_called (PySem.F.bm_typeCall _) PySem.F.entry_object_init (px ⟨rfl,rfl⟩) λobj s₁ t0=>qk t0 λe1 e2=>?_
  clear t0;subst e1 e2
  exact ⟨PySem.W.typeIs_bytes _ _ _,PySem.F.args_object_init_2 _ _,object_init_meets PySem.F.bm_called.init.lookup PySem.F.bm_called.made (by decide) M.prog M.w A.in1 _ p.s ⟨PySem.W.typeIs_bytes _ _ _,rfl,hT p _ (.bytes b) hq ⟨t,rfl⟩ (.refl R)⟩⟩
 | _=>exact hq.elim
theorem kW {h:Heap} {t:Nat} {D:Addr} {vs:Array Value} {n:Nat} {xs:List AV} (R:Rep M p) (g:dJ p.h h) (hD:p.h.objs.size<=D) (hl:h.get? D=some (m5 vs n)) (hr:L2 (VR (p.at h t)) vs.toList xs) (hz:xs.length<=lim) (hq:Q (.ref p.n) (p.H.push (.list xs))) (hT:AA M p Q T):T (.ref D) (p.at h t).s:=
 have z:=After.tell (o:= .list xs) (After.grow (t:=t) (B:=c6) R g) hD hD (R.new hD) (R.new hD) R.sz ⟨rfl,vs,n,hl,wU.mono .tell hr,hz⟩
 hT ((p.at h t).tell D D (.list xs)) _ (.ref p.n) hq z.2 z.1
theorem K7 (R:Rep M p) {v:Value} {av:AV} (r:VR p v av) (hq:Jl av p.H Q):Ev M A p (call (.type "list") [v]) Q:=λT hT=>by
 refine bU (bK hq) λa e0 h=>?_;subst e0
 obtain ⟨rfl,la⟩:=r
 refine aw (bZ h.run) λxs hg h=>?_
 refine aq (aK R la hg) λus n l=>?_
 refine aP (call_list_seq _ (.inl rfl) l.at_ rfl rfl (λh' c' hk hD hz=>?_) ((aB l.l)▸cV l.len))
 have g:dJ p.h h':=⟨hk,hz⟩
 exact kW (t:=p.s.toks) R g (aaF _) hD (wU.mono (.grow g.tup) l.l) l.len h.run hT
theorem wN {a b:Int} {acc:Array Value} {n:Nat} (e:n=(b - a).toNat) (x:ItemsOf (λi v=>∃t,v=Value.int (a+i*1) t) acc n):L2 (VR p) acc.toList (aN a b):=by
 have main:∀(l:List Value) (i:Nat),(∀j v,l[j]? =some v->∃t,v=Value.int (a+((i+j:Nat):Int)) t)->L2 (VR p) l ((List.range' i l.length).map λ(i:Nat)=>AV.int (a+(i:Int))):=by
  intro l
  induction l with
  | nil=>exact λi zz=>.nil
  | cons v l ih=>
   intro i hl
   rw [aa2,abD,aa4]
   exact .cons (hl 0 v rfl) (ih (i+1) λj u hj=>by have:=hl (j+1) u hj;rwa [abg j 1,<-aa9] at this)
 have:=main acc.toList 0 λj v hj=>by
  rw [abh] at hj
  have:∃t,v=Value.int (a+(j:Int)*1) t:=x.2 j v hj
  rwa [Int.mul_one,show (j:Int)=((0+j:Nat):Int) by rw [abE]] at this
 unfold aN
 rw [List.range_eq_range',<-e]
 rwa [Array.length_toList,x.1] at this
theorem uw (hh:A.handled=none) (R:Rep M p) {r:Addr} {a b:Int} {t u v:Tok} (hr:IsRange p.s.heap r a b 1 t u v) (h1:0<=a) (h2:a<=b) (h3:b<=lim) (hq:Q (.ref p.n) (p.H.push (.list (aN a b)))):Ev M A p (call (.type "list") [.ref r]) Q:=λT hT=>by
 have sm:=wS h1 h2 h3
 have hl:(aN a b).length<=lim:=by
  unfold aN
  rw [aaB,List.length_range]
  exact Int.toNat_le.mpr (abd (Int.sub_le_self _ h1) h3)
 refine aP (call_list_range hh hr sm.1 (n:=(b - a).toNat) (by rw [sm.2];exact (Int.toNat_of_nonneg (Int.sub_nonneg_of_le h2)).symm) (by have:(lim:Nat)=1000000:=rfl;exact Int.toNat_le.mpr (abd (Int.sub_le_self _ h1) (abd h3 (wZ (aaw (aaS this) (by decide:1000000<=2 ^ 24)):)))) λh' tk xJ c' hk hD hi hz=>?_)
 exact kW R ⟨hk,hz⟩ (aaF _) hD (wN rfl hi) hl hq hT
end
theorem FA (t:String):toS (Str.ofString t)=t:=by
 rw [Str.ofString_eq_toList]
 show String.ofList ((t.toList.map Char.toNat).map Char.ofNat)=t
 rw [aa5]
 refine (congrArg String.ofList ((abq λc zz=>?_).trans (aby _))).trans String.ofList_toList
 exact Char.ofNat_toNat c
noncomputable def TV (a:AV):Prop:=∃i,a= .int i
theorem So.ints:So.EP TV:=⟨λ{a b} ha hb h=>ha.elim λi e=>hb.elim λj e'=>by
  rw [e,e'] at h ⊢
  exact decide_eq_false (Int.lt_asymm (of_decide_eq_true h)),
 λ{a b c} ha hb hc h1 h2=>ha.elim λs e=>hb.elim λt e'=>hc.elim λu e2=>by
  rw [e,e'] at h1
  rw [e',e2] at h2
  rw [e,e2]
  have h1:=of_decide_eq_false h1
  have h2:=of_decide_eq_false h2
  exact decide_eq_false (Int.not_lt.mpr (abd (Int.not_lt.mp h1) (Int.not_lt.mp h2))),
 λ{a b} ha hb h1 h2=>ha.elim λs e=>hb.elim λt e'=>by
  rw [e,e'] at h1 h2 ⊢
  exact congrArg _ (Int.le_antisymm (Int.not_lt.mp (of_decide_eq_false h1)) (Int.not_lt.mp (of_decide_eq_false h2)))⟩
theorem kH:∀(p:Str) (l:List Str),risingS p l=true->(p::l).Pairwise λa b=>¬b.cps.toList < a.cps.toList
 | p,[],_=>abu _ _
 | p,x::r,h=>by
  have h:(!Spec.ltCps x.cps.toList p.cps.toList&&risingS x r)=true:=h
  rw [Bool.and_eq_true,ltCps_eq] at h
  have ih:=kH x r h.2
  have h1:¬x.cps.toList < p.cps.toList:=of_decide_eq_false (by rw [<-Bool.not_eq_true'];exact h.1)
  exact List.pairwise_cons.mpr ⟨λz hz=>(aaH.mp hz).elim (λe=>e▸h1) λhz=>List.le_trans (l₁:=p.cps.toList) h1 ((List.pairwise_cons.mp ih).1 z hz),ih⟩
section
variable {M:Mo} {k:Nat} {A:Around} {B:Addr->Prop} {p p':Pt} {Q:KV} {T:Value->Shared->Prop}
theorem IX {vs:List Value} {xs:List AV} (l:L2 (VR p) vs xs):xs.all AV.qd=true->∃ns,IntsAre vs ns/\xs=ns.map AV.int:=l.rec (λzz=>⟨[],.nil,rfl⟩) λ{v x zz zz} r zz ih h=>by
 have h:=aaV.mp h
 refine aw (ih h.2) λns h1 h2=>?_
 cases x with
 | int i=>obtain ⟨t,rfl⟩:=r;exact ⟨i::ns,.cons i t h1,congrArg (_::·) h2⟩
 | _=>exact (aaE h.1).elim
theorem uH {vs:List Value} {ns:List Int} (x:IntsAre vs ns):L2 (VR p) vs (ns.map AV.int):=by
 induction x with
 | nil=>exact .nil
 | cons i t _ ih=>exact .cons ⟨t,rfl⟩ ih
theorem Hf {vs:List Value} {xs:List AV} (l:L2 (VR p) vs xs):xs.all AV.oP=true->∃ss:List String,StrsAre vs (ss.map Str.ofString)/\xs=ss.map AV.str:=l.rec (λzz=>⟨[],.nil,rfl⟩) λ{v x zz zz} r zz ih h=>by
 have h:=aaV.mp h
 refine aw (ih h.2) λns h1 h2=>?_
 cases x with
 | str i=>obtain ⟨t,rfl⟩:=r;exact ⟨i::ns,.cons _ t h1,congrArg (_::·) h2⟩
 | _=>exact (aaE h.1).elim
theorem DB:∀{vs:List Value} {ss:List String},StrsAre vs (ss.map Str.ofString)->L2 (VR p) vs (ss.map AV.str):=by
 intro vs ss
 induction ss generalizing vs with
 | nil=>intro h;cases h;exact .nil
 | cons s ss ih=>intro h;cases h with | cons _ t x=>exact .cons ⟨t,rfl⟩ (ih x)
theorem MA {D:Addr} {vs:List Value} {xs:List AV} {c:Nat} (hD:p.h.get? D=some (m5 vs.toArray c)) (r:L2 (VR p) vs xs) (hk:xs.all AV.qd=true\/xs.all AV.oP=true) (hz:xs.length < 64)
  (hT:∀h' out e,h'.get? D=some (m5 out e)->L2 (VR p) out.toList (bt xs)->(∀b o,b≠D->p.h.get? b=some o->h'.get? b=some o)->T .none (p.at h' p.s.toks).s):wpAny M.m A (call (.builtin "list.sort") [.ref D]) T bL p.s:=by
 have hl:vs.length < 64:=by rw [r.len];exact hz
 have old:∀(out:Array Value) b o,b≠D->p.h.get? b=some o->(sortedHeap p.h D vs out).get? b=some o:=λout b o hb e=>by rw [sortedHeap_old hb (Heap.lt_size e)];exact e
 refine wpAny_call_entry slot_list_sort ⟨_,hD,rfl⟩ entry_list_sort ?_ (args_list_sort _)
 clear hz;rcases hk with hi | hi
 .obtain ⟨ns,h1,rfl⟩:=IX r hi
  refine list_sort_tree hD h1 hl λout ug a1 a2 a3=>⟨_,rfl,?_⟩
  obtain ⟨e,he⟩:=sortedHeap_at (out:=out) hD
  refine hT _ out e he ?_ (old out)
  exact (So.uniq So.ints (ys:=ug.map AV.int) (λx hx=>(aaG.mp hx).imp λi z=>z.2.symm) (a2.map _) (List.Pairwise.map _ (λa b mR=>decide_eq_false (Int.not_lt.mpr mR)) a3))▸uH a1
 .obtain ⟨ss,h1,rfl⟩:=Hf r hi
  refine list_sort_treeK strKind_oneLt hD h1.keysOf (λv₁ v₂ rest e=>keyKind_strs ((e)▸h1)) hl λye hp hs=>⟨_,rfl,?_⟩
  refine cU (sorted_out_str h1 hp hs) λMT g1 g2 g3=>?_
  refine uh (sortedHeap_at (out:=(arrOf ye).map (·.2)) hD) λe he=>?_
  refine hT _ _ e he ?_ (old _)
  have back:MT=(MT.map toS).map Str.ofString:=by
   rw [aa5]
   refine ((aby _).symm.trans (abq λx hx=>?_))
   refine aw (aaG.mp (g2.mem_iff.mp hx)) λt zz e=>?_
   show x=Str.ofString (toS x)
   rw [<-e,FA]
  have pm:((MT.map toS).map AV.str).Perm (ss.map AV.str):=by
   have:=g2.map toS
   rw [aa5,show (toS ∘ Str.ofString)=id from funext FA,aby] at this
   exact this.map _
  have pw:((MT.map toS).map AV.str).Pairwise So.le:=by
   have g4:MT.Pairwise λa b=>¬b.cps.toList < a.cps.toList:=by
    cases MT with
    | nil=>exact .nil
    | cons t ts=>exact kH _ _ g3
   rw [back] at g4
   refine List.Pairwise.map _ (λa b mR=>?_) (List.pairwise_map.mp g4)
   rw [Str.ofString_eq_toList,Str.ofString_eq_toList] at mR
   exact decide_eq_false mR
  rw [<-So.uniq So.Sw (λx hx=>(aaG.mp hx).imp λi z=>z.2.symm) pm pw]
  rw [back] at g1
  exact DB g1
theorem L2.QF {α β:Type} {r:α->β->Prop} {l:List α}:∀{m:List β},l.length=m.length->(∀(j:Nat) a b,l[j]? =some a->m[j]? =some b->r a b)->L2 r l m:=by
 induction l with
 | nil=>exact λe zz=>List.eq_nil_of_length_eq_zero e.symm▸ .nil
 | cons a l ih=>
  intro m e h
  cases m with
  | nil=>exact (abC _ e).elim
  | cons b m=>exact .cons (h 0 a b rfl rfl) (ih (Nat.succ.inj e) λj=>h (j+1))
theorem oF {α β:Type} [DecidableEq α] {knd:PySem.KeyKind M.prog M.w α} {enc:β->AV} {dec:β->α} (f:∀v b,knd.is (dec b) v=true->VR p v (enc b)) (l:List Value) (ts:List β) {kvs:List (α × Value)} (e:kvs.map (·.1)=ts.map dec) (e1:l.length=kvs.length) (h:∀(j:Nat) (v:Value),l[j]? =some v->∃k x,kvs[j]? =some (k,x)/\knd.is k v=true):L2 (VR p) l (ts.map enc):=by
 have e2:=congrArg List.length e
 rw [aaB,aaB] at e2
 refine (L2.QF (e1.trans e2) λj v t hv ht=>aq (h j v hv) λk x z=>f v t ?_).xq
 have e3:=congrArg (·[j]?) e
 rw [abc,abc,z.1,ht] at e3
 exact aay e3▸z.2
theorem KQ (v:Value) (b:Int) (h:(intKind M.prog M.w).is (id b) v=true):VR p v (.int b):=by
 cases v with
 | int i t=>exact ⟨t,by rw [of_decide_eq_true (show decide (i=b)=true from h)]⟩
 | _=>exact (aaE h).elim
theorem Lm (v:Value) (b:String) (h:(PySem.strKind M.prog M.w).is (Str.ofString b) v=true):VR p v (.str b):=by
 cases v with
 | str i t=>exact ⟨t,by rw [beq_iff_eq.mp (show (i==Str.ofString b)=true from h)]⟩
 | _=>exact (aaE h).elim
theorem Bk (W:Wd M) (hh:A.handled=none) (R:Rep M p) {a:Nat} (la:a < p.n) {xs:List AV} (hg:p.H.g a= .list xs\/∃es,p.H.g a= .dict es/\xs=es.map (·.1)) (hk:xs.all AV.qd=true\/xs.all AV.oP=true) {T:List Value->Shared->Prop}
  (hT:∀vs h' t,dJ p.h h'->L2 (VR (p.at h' t)) vs xs->T vs (p.at h' t).s):wpAny M.m A (collect (.ref (p.W.ρ a))) T bL p.s:=by
 rcases hg with hg | ⟨es,hg,rfl⟩
 .refine aq (aK R la hg) λus k1 l=>?_
  refine aP (collect_list (vs:=us.toList) (cj l.at_) (λGe=>?_) (by rw [l.l.len];exact cV l.len))
  have g:dJ p.h ((p.h.push (seqObj "list" #[] 0)).update p.h.objs.size (Obj.mapSeq (· ++us.toList.toArray))):=⟨λx o e=>by
   rw [Heap.get?_update_other _ _ (abm (aaJ (Heap.lt_size e)))]
   exact Heap.get?_push_of_some _ e,Ge⟩
  exact hT _ _ p.s.toks g (wU.mono (.grow g.tup) l.l)
 .refine ga (cF R la hg) λzz ds ep D=>?_
  have sy:=kQ W R la (fF hg)
  rcases hk with hi | hi
  .obtain ⟨kvs,ts,hd,e1,e2⟩:=Hi D λe he=>by
    have:=aaX.mp hi e.1 (abi he)
    cases q:e.1 with
    | int=>rfl
    | _=>rw [q] at this;exact (aaE this).elim
   have l:kvs.length=es.length:=by have h1:=congrArg List.length e1;have h2:=congrArg List.length e2;rw [aaB,aaB] at h1 h2;exact h2.trans h1.symm
   refine aP (kdu_collect (kdl_dict (knd:=intKind M.prog M.w) (kvs:=kvs) (ep:=ep) sy) hh hd (by rw [l];exact cV D.len) λh' tk acc MW C8 Ge=>hT _ _ tk ⟨MW,Ge⟩ ?_)
   rw [e1]
   exact oF (knd:=intKind M.prog M.w) (dec:=id) KQ acc.toList ts e2 (by rw [Array.length_toList,C8.1]) λj v hj=>C8.2 j v (by rw [abh] at hj;exact hj)
  .obtain ⟨kvs,ts,hd,e1,e2⟩:=nC D λe he=>by
    have:=aaX.mp hi e.1 (abi he)
    cases q:e.1 with
    | str=>rfl
    | _=>rw [q] at this;exact (aaE this).elim
   have l:kvs.length=es.length:=by have h1:=congrArg List.length e1;have h2:=congrArg List.length e2;rw [aaB,aaB] at h1 h2;exact h2.trans h1.symm
   refine aP (kdu_collect (kdl_dict (knd:=PySem.strKind M.prog M.w) (kvs:=kvs) (ep:=ep) sy) hh hd (by rw [l];exact cV D.len) λh' tk acc MW C8 Ge=>hT _ _ tk ⟨MW,Ge⟩ ?_)
   rw [e1]
   exact oF (knd:=PySem.strKind M.prog M.w) (dec:=Str.ofString) Lm acc.toList ts e2 (by rw [Array.length_toList,C8.1]) λj v hj=>C8.2 j v (by rw [abh] at hj;exact hj)
theorem C1 (W:Wd M) (hh:A.handled=none) (R:Rep M p) {v:Value} {av:AV} (r:VR p v av) (hq:jQ av p.H Q):Ev M A p (call (.builtin "sorted") [v]) Q:=λT hT=>by
 refine bU (bK hq) λa e0 h=>?_;subst e0
 obtain ⟨rfl,la⟩:=r
 obtain ⟨xs,hg,hk,hz,h⟩:∃xs,(p.H.g a= .list xs\/∃es,p.H.g a= .dict es/\xs=es.map (·.1))/\we xs p.H Q:=by
  have h:=h.run
  cases e:p.H.g a with
  | list xs=>rw [e] at h;exact ⟨xs,.inl rfl,h⟩
  | dict es=>rw [e] at h;exact ⟨_,.inr ⟨es,rfl,rfl⟩,h⟩
  | _=>rw [e] at h;exact h.elim
 refine call_function_entry kind_sorted plain_sorted entry_sorted (args_sorted1 _) ?_
 have Xb:xs.length<=lim:=aaw (aaI hz) (by decide)
 refine wpAny_bind (m:=checkCount "sorted" 1 1 _) (wpAny_pure (wpAny_bind (Bk (A:=A.in1) W hh R la hg hk λus h' t g hr=>wpAny_bind (wpAny_newList ?_ (by rw [hr.len];exact cV Xb)))))
 have hD:(h'.push (m5 us.toArray 0)).get? h'.objs.size=some (m5 us.toArray 0):=Heap.get?_push_size _ rfl
 refine wpAny_bind (wpAny_holding (aP (tI (MA (p:=p.at (h'.push (m5 us.toArray 0)) t) hD (wU.mono (p:=p.at h' t) (.grow (dJ.push _ _).tup) hr) hk hz λh2 out e he YM hold Zf=>?_))))
 have tk:dG (h'.push (m5 us.toArray 0)) h2:=λx o e q=>hold x o (λz=>by subst z;obtain rfl:=aay (hD.symm.trans e);exact xK (c:="list") rfl (by decide) q) e
 exact wpAny_pure ⟨_,rfl,kW (p:=p) (t:=t) R (⟨λb o e=>hold b o (aaJ (aax (Heap.lt_size e) g.2)) ((g.trans (.push _ _)).1 b o e),aaw (g.trans (.push _ _)).2 Zf⟩) g.2 he (wU.mono (p:=p.at (h'.push (m5 us.toArray 0)) t) (p':=p.at h2 t) ⟨aaF _,λzz zz=>rfl,tk⟩ YM) (by rw [dw];exact Xb) h.run hT⟩
end
section
variable {M:Mo} {k:Nat} {A:Around} {B:Addr->Prop} {p p':Pt} {sc:Scope} {env:Env} {loc:Loc} {Q:KV} {T:Value->Shared->Prop} {e:Expr} {q:Pos}
structure dK (M:Mo) (p:Pt) (D:Addr) (es:List (AV × AV)):Prop where
 own:¬Own p D
 hi:M.h0.objs.size<=D
 at_:∃ds k,j5 M p D ds k es
theorem dK.lt {D:Addr} {es:List (AV × AV)} (x:dK M p D es):D < p.h.objs.size:=aq x.at_ λds k z=>Heap.lt_size z.at_
theorem dK.Ig {D:Addr} {es:List (AV × AV)} (x:dK M p D es):∀y,isA D y->lA M p y:=λy (e:y=D)=>e▸⟨x.own,x.hi,aq x.at_ λds k z=>ou z.at_ (by decide:Value.type "dict"≠ .type "tuple")⟩
theorem dK.after {D:Addr} {es:List (AV × AV)} (x:dK M p D es) (a:After M B p p') (hb:¬B D):dK M p' D es:=
 ⟨a.own x.lt x.own,x.hi,x.at_.imp λds z=>z.imp λk z=>z.mono a.lift λo e=>a.keep _ o e x.own hb⟩
theorem dK.tell {D:Addr} {es:List (AV × AV)} (x:dK M p' D es) (a:After M B p p') (jR:p.h.objs.size<=D) (hs:M.h0.objs.size<=p.h.objs.size) (hb:∀x,B x->p.h.objs.size<=x) (hq:Q (.ref p'.n) (p'.H.push (.dict es))) (hT:AA M p Q T):T (.ref D) p'.s:=
 have t:=After.tell (o:= .dict es) a jR jR x.own x.own hs ⟨rfl,x.at_.imp λds z=>z.imp λk z=>z.mono .tell λzz e=>e⟩
 hT (p'.tell D D (.dict es)) _ (.ref p'.n) hq t.2 (t.1.drop λx hx=>.inr (hb x hx))
theorem wG (hu:A.units+100 < cLine) (R:Rep M p) {D:Addr} {es:List (AV × AV)} (x:dK M p D es) {v u:Value} {kx y:AV} (r:VR p v kx) (ru:VR p u y) (fit:bB kx es) (hz:es.length < lim) {T:Unit->Shared->Prop}
  (hT:∀h t,dK M (p.at h t) D (bS kx y es)->After M (isA D) p (p.at h t)->T () (p.at h t).s):wpAny M.m A (dictSet D v u) T bL p.s:=by
 refine aq x.at_ λds ep d=>?_
 exact C0 hu d r ru fit hz λh t hs D'=>have a:After M (isA D) p (p.at h t):= .gen R (aaS hs.1.symm) x.Ig (λx o e n=>(hs.2 x n).trans e);hT h t ⟨x.own,x.hi,D' _ a.lift rfl⟩ a
noncomputable abbrev Mz:Obj:={cls:= .type "dict",data:= .dict #[]}
theorem xm (R:Rep M p) {t:Nat}:After M c6 p (p.at (p.h.push Mz) t)/\dK M (p.at (p.h.push Mz) t) p.h.objs.size []:=
 ⟨.grow R (.push _ _),R.new (aaF _),R.sz,#[],0,Heap.get?_push_size _ rfl,.nil,.nil,abp _⟩
noncomputable def j2 (env:Env) (pos:Pos):List (Option Expr)->List Expr->List (Sem Value × Sem Value)
 | some k::ks,v::vs=>(eval k env,do let x <-eval v env;standAt pos;pure x)::j2 env pos ks vs
 | _,_=>[]
theorem nT {e:Option Expr} {r:List (Option Expr)} {ks:List String} (h:pC (e::r)=some ks):∃x c q l,e=some (.Constant (.str (Str.ofString x)) c q)/\pC r=some l/\ks=x::l:=by
 refine bU (bb h) λe e0 ha=>?_;subst e0
 refine aw (bb ha) λy h1 hb=>?_
 refine aw (bb hb) λx h2 hc=>?_
 refine aw (bm hc) λl h3 e1=>?_;subst e1
 have:=ky h2
 clear h2 hb ha h;cases e with
 | Constant v c q=>
  cases v with
  | str t=>obtain rfl:=aay h1;exact (jW x c q l ⟨by rw [<-this],h3,rfl⟩)
  | _=>exact nomatch h1
 | _=>exact nomatch h1
theorem i9 {pos:Pos}:∀{kf:List (Option Expr)} {ks:List String} {vf:List Expr},pC kf=some ks->kf.length=vf.length->
  (evalEachOpt kf env).zip ((evalEach vf env).map λv=>do let x <-v;standAt pos;pure x)=(j2 env pos kf vf).map (λp=>(some p.1,p.2))/\(j2 env pos kf vf).length=kf.length/\ks.length=kf.length
 | [],ks,[],h,_=>by obtain rfl:=aay h;exact ⟨rfl,rfl,rfl⟩
 | e::kf,ks,v::vf,h,hl=>by
  refine uu (nT h) λx c q l e0 h' e1=>?_;subst e0;subst e1
  refine w5 (i9 (pos:=pos) h' (Nat.succ.inj hl)) λa b d=>?_
  refine ⟨?_,congrArg (· +1) b,congrArg (· +1) d⟩
  show (some (eval _ env),_)::(evalEachOpt kf env).zip ((evalEach vf env).map _)=_
  rw [a];rfl
theorem vN {pos:Pos} {l:List X} {vf:List Expr} (s:L2 (λx e=>aA M x sc e) l vf):∀{kf:List (Option Expr)} {ks:List String},pC kf=some ks->kf.length=vf.length->∀{k:Nat} {p:Pt} {Q:KL},nv M k A p sc env loc->vo l (Γc M k) loc p.H Q->
  ∀T:List (Value × Value)->Shared->Prop,(∀p' kvs bG,Q bG p'.H->L2 (λ(q:Value × Value) (a:String × AV)=>VR p' q.1 (.str a.1)/\VR p' q.2 a.2) kvs (ks.zip bG)->bG.length=ks.length->After M c6 p p'->T kvs p'.s)->wpAny M.m A (evalPairs (j2 env pos kf vf)) T bL p.s:=by
 induction s with
 | nil=>
  intro kf ks hk hl k p Q z hq T hT
  cases kf with
  | cons=>cases hl
  | nil=>obtain rfl:=aay hk;exact wpAny_pure (hT p [] [] hq .nil rfl (.refl z.rep))
 | cons h s ih=>
  intro kf ks hk hl k p Q z hq T hT
  cases kf with
  | nil=>cases hl
  | cons e kf=>
   refine uu (nT hk) λx c q l e0 y7 e1=>?_;subst e0;subst e1
   refine evalPairs_cons (wpAny_mkText ?_)
   have a0:After M c6 p (p.at p.h (p.s.toks+1)):= .toks z.rep _
   exact wpAny_bind (h (z.after a0) hq _ λp1 v1 av q1 r a=>wpAny_bind (wpAny_standAt (wpAny_pure (ih y7 (Nat.succ.inj hl) (z.after (a0.trans a)) q1 _ λp2 kvs bG q2 f QU a2=>hT p2 _ (av::bG) q2 (.cons ⟨⟨_,rfl⟩,a2.rel r⟩ f) (congrArg (· +1) QU) ((a0.trans a).trans a2)))))
theorem Ac {k v:AV} {es:List (AV × AV)} {m:Nat} (hk:kk k=m) (he:∀e∈es,kk e.1=m):∀e∈bS k v es,kk e.1=m:=λe h=>by
 have:=pF.mp (abi (f:=(·.1)) h)
 rcases this with q | q
 .exact (q)▸hk
 .refine aw (aaG.mp q) λe' h' q=>?_
  exact q▸he e' h'
theorem vF {D:Addr} (hu:A.units+100 < cLine):∀(kvs:List (Value × Value)) (as:List (String × AV)) {es:List (AV × AV)} {p:Pt},Rep M p->dK M p D es->(∀e∈es,kk e.1=1)->es.length+as.length<=lim->L2 (λ(q:Value × Value) (a:String × AV)=>VR p q.1 (.str a.1)/\VR p q.2 a.2) kvs as->
  ∀{T:PUnit->Shared->Prop},(∀h t,dK M (p.at h t) D (as.foldl (λes a=>bS (.str a.1) a.2 es) es)->After M (isA D) p (p.at h t)->T PUnit.unit (p.at h t).s)->
   wpAny M.m A (forIn kvs PUnit.unit λ(x:Value × Value) (zz:PUnit)=>(do dictSet D x.1 x.2;pure (ForInStep.yield PUnit.unit):Sem (ForInStep PUnit))) T bL p.s
 | _,_,es,p,R,x,hk,hz,.nil,T,hT=>by
  refine be (List.forIn_nil ..) ?_
  exact wpAny_pure (hT _ _ x (.refl R))
 | _,a::as,es,p,R,x,hk,hz,.cons f fs,T,hT=>by
  refine be (List.forIn_cons ..) ?_
  rw [aa2,<-aa9] at hz
  refine wpAny_bind (wpAny_bind (wG hu R x f.1 f.2 ⟨Nat.one_ne_zero,λe he=>hk e he⟩ (aaz (aaM _ _) hz) λh t x1 a1=>wpAny_pure ?_))
  refine vF hu _ as a1.rep x1 (Ac rfl hk) (aaw (abb jY _) (by rw [aa9,abg 1,<-aa9];exact hz)) (fs.imp λzz zz z=>⟨a1.rel z.1,a1.rel z.2⟩) λh t x2 a2=>hT h t x2 (a1.trans a2)
theorem uZ:∀(ks:List String) (bG:List AV) (es:List (AV × AV)),(ks.zip bG).foldl (λes a=>bS (.str a.1) a.2 es) es=((ks.map AV.str).zip bG).foldl (λes p=>bS p.1 p.2 es) es
 | [],_,_=>rfl
 | _::_,[],_=>rfl
 | _::ks,_::bG,_=>uZ ks bG _
theorem DZ {ks:List String} {l:List X} {kf:List (Option Expr)} {vf:List Expr} (hk:pC kf=some ks) (hl:kf.length=vf.length) (hz:kf.length<=15) (hx:L2 (λx e=>aA M x sc e) l vf):aA M (X.dict ks (vo l)) sc (.Dict kf vf q):=by
 intro k A p env loc Q z hq T hT
 cases kf with
 | nil=>
  cases vf with
  | cons=>cases hl
  | nil=>
   cases hx
   obtain rfl:=aay hk
   refine be (eval_Dict_empty ..) ?_
   have n:=xm z.rep (t:=p.s.toks)
   exact wpAny_bind (wpAny_standAt (wpAny_newObj_type (n.2.tell n.1 (aaF _) z.rep.sz (λzz h=>h.elim) hq.run hT)))
 | cons e kf=>
  refine w5 (i9 (env:=env) (pos:=q) hk hl) λe1 e2 e3=>?_
  have zQ:j2 env q (e::kf) vf≠[]:=λh=>by replace e2:=(h)▸e2;cases e2
  refine be (arm_eval_Dict ..) ?_;rw [e1,dictDisplay_pairs _ zQ (by rw [e2];exact aaz hz (by decide:15 < 17))]
  refine wpAny_bind (wpAny_standAt (wpAny_bind ?_))
  refine wpAny_bind (wpAny_alloc (wpAny_bind (wpAny_holding ?_)))
  refine FC (by rw [e2];exact hz) ?_
  refine qk (xm z.rep (t:=p.s.toks)) λa0 x0=>?_
  refine wpAny_bind (vN hx hk hl (z.after a0) hq _ λp1 kvs bG q1 f QU a1=>?_)
  refine wpAny_holding (wpAny_bind (vF z.cx.vu kvs (ks.zip bG) a1.rep (x0.after a1 id) (λzz h=>(aaU h).elim) (by rw [List.length_zip,QU,Nat.min_self,e3];exact aaw (aaS (abE _)) (aaw hz (by decide))) f λh t x2 a2=>wpAny_pure (wpAny_pure (wpAny_pure (x2.tell ((a0.trans a1).no.trans a2) (aaF _) z.rep.sz (λx (e:x=_)=>e▸aaF _) ?_ hT)))))
  rw [uZ]
  exact q1.run
end
section
variable {M:Mo} {k:Nat} {A:Around} {B:Addr->Prop} {p p':Pt} {Q:KV} {T:Value->Shared->Prop}
theorem sG:typeLookup (.type "list") ("keys":Str)=pure none:=by rw [typeLookup_type,builtinLookup_eq_fast];kernel_rfl
theorem DH {s:Shared} {a:Addr} {xs:Array Value} {c:Nat} (hx:s.heap.get? a=some (m5 xs c)) (hA:A.handled=none) {T:Option Value->Shared->Prop} {E:Value->Shared->Prop}
  (hT:∀h' tk,(∀b o,s.heap.get? b=some o->h'.get? b=some o)->T none {s with heap:=h',toks:=tk}):wpAny M.m A (getAttr? (.ref a) ("keys":Str)) T E s:=by
 obtain ⟨hp,g,d,tk,os⟩:=s
 have Gv:∀ME,(⟨hp,g,d,ME,os⟩:Shared).TypeIs (.ref a) "list":=λzz=>⟨_,hx,rfl⟩
 have f1:=sub_AttributeError
 have f3:=PySem.F.slot_list_getattribute.lookup
 have f4:=PySem.F.slot_list_getattribute.bind (.ref a)
 have f5:=am_list_getattr_none
 have P5:=sG
 have PE:((["__module__","__name__","__qualname__","__doc__","__annotations__"]:List Str).contains ("keys":Str))=false:=by decide
 unfold getAttr? getAttrBy? getAttrBy
 repeat (any_goals (first | assumption | exact Gv _ | ((with_reducible show wpAny _ _ (call (Value.builtin "list.__getattribute__") _ _) _ _ _);refine call_meets PySem.F.slot_list_getattribute (Gv _) am_entry_list_getattribute (PySem.F.args_list_getattribute_2 _ _) (meets_getattribute_miss_list a xs c #[] ("keys":Str) _ P5 PE) ⟨hx,hA,λh' ME e Vq=>?_⟩) | wp_step))
 obtain ⟨t',u',he⟩:=Vq.there
 show wpAny _ _ (getattributeRaised _ _ _ _ _ _ _) _ _ _
 unfold getattributeRaised
 repeat (any_goals (first | assumption | wp_step))
 exact hT _ _ Vq.of.keeps
theorem g9:entryFor table "dict.update.loop"=some Builtin.«dict.update.loop»:=entryFor_of_tree (by kernel_rfl)
theorem c9:plainId "dict.update.loop"=true:=by decide+kernel
theorem wO {x:Addr} {vs:Array Value} {s:Shared} (ht:IsTup s.heap x vs) {T:List Value->Shared->Prop} {E:Value->Shared->Prop} (h:T vs.toList s):wpAny M.m A (Builtin.Dict.pairItems (.ref x)) T E s:=by
 refine wpAny_bind (wpAny_typeOf ht.typeIs (bm_if_true rfl ?_))
 refine jB ht λo ho hc n hd=>?_
 show wpAny _ _ (seqItems? (.ref x) >>= _) _ _ s
 exact wpAny_bind (wpAny_seqItems ho hd (wpAny_pure h))
theorem jM {v:AV} {r:List AV} {ps:List (AV × AV)} (h:dH (v::r)=some ps):∃k u Km,v= .tup [k,u]/\dH r=some Km/\ps=(k,u)::Km:=by
 refine aw (bb h) λq h1 h2=>?_
 refine aw (bm h2) λKm h3 h4=>?_
 clear h2 h;cases v with
 | tup xs=>
  rcases xs with _ | ⟨a,_ | ⟨b,_ | ⟨c,l⟩⟩⟩
  .exact (nn h1).elim
  .exact (nn h1).elim
  .obtain rfl:=aay h1;exact (cZ _ _ Km ⟨rfl,h3,h4.symm⟩)
  .exact (nn h1).elim
 | _=>exact (nn h1).elim
theorem fE:∀{xs:List AV} {ps:List (AV × AV)},dH xs=some ps->ps.length=xs.length
 | [],_,h=>by obtain rfl:=aay h;rfl
 | v::r,_,h=>by
  refine Hy (jM h) λk u Km zz h2 e0=>?_;subst e0
  exact congrArg (· +1) (fE h2)
theorem AX {D it a m:Nat} {xs:List AV} {Rr:Result->Shared->Prop} (hh:A.handled=none) (hu:A.units+101 < cLine) (hm:m≠0):∀(ps:List (AV × AV)) (i:Nat) {p:Pt} {es:List (AV × AV)},dH (xs.drop i)=some ps->p.H.g a= .list xs->
  Rep M p->It M p (.obj a) xs 0 it i->dK M p D es->it≠D->(∀e∈es,kk e.1=m)->(∀q∈ps,kk q.1=m)->es.length+ps.length<=lim->
  (∀h t,dK M (p.at h t) D (ps.foldl (λes q=>bS q.1 q.2 es) es)->After M (λz=>z=D\/z=it) p (p.at h t)->Rr (.ok (.ret .none)) (p.at h t).s)->∀j,codeAny M.m A (.builtin "dict.update.loop" ⟨[.ref D,.ref it,rawInt j,.none],[]⟩) Rr p.s:=by
 intro ps
 induction ps with
 | nil=>
  intro i p es wT hg R I hD zQ SM Qw hz hR j
  have e0:xs.length<=i:=by have:=fE wT;rw [List.length_drop] at this;exact Nat.le_of_sub_eq_zero this.symm
  refine codeAny_builtin g9 ?_
  exact (Around.under_plainId c9 _)▸wpAny_bind (tI (tw (A:=A.in1) hh R I (λv av h t h1=>by rw [List.getElem?_eq_none e0] at h1;exact nomatch h1) λh t h1 a2=>wpAny_bind (wpAny_pure (wpAny_pure (hR h t (hD.after a2 λq=>zQ q.symm) (a2.weaken λzz e=>.inr e))))))
 | cons q Km ih=>
  intro i p es wT hg R I hD zQ SM Qw hz hR j
  have lt:i < xs.length:=by
   have:=fE wT
   rw [List.length_drop] at this
   exact Nat.lt_of_sub_pos (this▸Nat.succ_pos _)
  have LH:=aaR lt
  replace wT:=(lO LH)▸wT
  refine iP (jM wT) λkx ux ps2 e2 TM e3=>?_
  cases e3
  rw [e2] at LH
  have k1:kk kx=m:=Qw (kx,ux) (.head _)
  refine codeAny_builtin g9 ?_
  rw [Around.under_plainId c9 _]
  refine wpAny_bind (tI (tw (A:=A.in1) hh R I (λv av h t h1 rv xd a2=>?_) λh t h1=>by rw [LH] at h1;exact nomatch h1))
  obtain rfl:=aay (LH.symm.trans h1)
  refine cf rv.tup λx items e1 ht hr=>?_;subst e1
  refine aS hr.aX λkv l1 TI rk hr=>?_
  obtain ⟨uv,l2,rfl,ru,hr⟩:=hr.aX
  obtain rfl:=hr.df
  refine wpAny_bind (wpAny_holding (wpAny_bind (wpAny_tryCatch (wO ht ?_))))
  rw [TI]
  have Ge:es.length+1+Km.length<=lim:=by rw [aa9,abg 1];exact hz
  refine wpAny_holding (tI (wG (A:=A.in1) (by show A.units+1+100 < cLine;rw [aa9];exact hu) a2.rep (hD.after a2 λq=>zQ q.symm) rk ru ⟨by rw [k1];exact hm,λe he=>by rw [SM e he,k1]⟩ (aax (aaC _) (aaw (aaM _ _) Ge)) λh3 t3 Xw a3=>?_))
  have Jk:=a2.own I.lt I.pv.own
  have lD:=aax I.lt a2.size
  have PO:=xd.keep a3 Jk zQ I.st I.st
  exact wpAny_pure ⟨plainId_quiet c9 _,ih (i+1) (p:=(p.at h t).at h3 t3) TM hg a3.rep ⟨PO,I.st,⟨a3.own lD Jk,I.pv.hi,PO.iv⟩,aax lD a3.size⟩ Xw zQ (Ac k1 SM) (λq hq=>Qw q (.tail _ hq)) (aaw (abb jY _) Ge)
   (λh4 t4 h1 a4=>hR h4 t4 h1 (((a2.weaken λzz e=>.inr e).trans (a3.weaken λzz e=>.inl e)).trans a4)) _⟩
theorem KF {α:Type} [DecidableEq α] {knd:PySem.KeyKind M.prog M.w α} {d:DictEntry} {ds:List DictEntry} {kvs:List (α × Value)} (h:Pairs knd (d::ds) kvs):∃k l,kvs=(k,d.val)::l/\knd.is k d.key=true/\Pairs knd ds l:=by
 cases h with
 | cons a b c=>exact (bH _ _ ⟨by rw [b],a,c⟩)
theorem Lx {α:Type} [DecidableEq α] {knd:PySem.KeyKind M.prog M.w α} {k:α} {v:Value} {ds:List DictEntry} {kvs:List (α × Value)} (h:Pairs knd ds ((k,v)::kvs)):∃d l,ds=d::l/\knd.is k d.key=true/\d.val=v/\Pairs knd l kvs:=by
 cases h with
 | cons a b c=>exact (bH _ _ ⟨rfl,a,by rw [b],c⟩)
theorem KR {ds:List DictEntry} {es:List (AV × AV)} (l:L2 (mP M p) ds es) (li:fQ p p'):∀{BW:List DictEntry} {kvs:List (Str × Value)},(∀e∈es,kk e.1=1)->Pairs (PySem.strKind M.prog M.w) ds kvs->Pairs (PySem.strKind M.prog M.w) BW kvs->
  (∀d∈BW,∃k,(PySem.strKind M.prog M.w).is k d.key=true/\d.hash=(PySem.strKind M.prog M.w).hash k)->L2 (mP M p') BW es:=by
 induction l with
 | nil=>intro BW kvs _ h1 h2 _;cases h1;cases h2;exact .nil
 | @cons d e ds es r l ih=>
  intro BW kvs hk h1 h2 hh
  refine aS (KF h1) λk kvs e2 p1 ps=>?_;subst e2
  refine Hb (Lx h2) λd' BW e3 q1 q2 qs=>?_;subst e3
  refine .cons ?_ (ih (λe he=>hk e (.tail _ he)) ps qs λd hd=>hh d (.tail _ hd))
  clear qs ps h2 h1;obtain ⟨dh,dk,dv⟩:=d
  obtain ⟨Z6,ZH,XA⟩:=d'
  obtain ⟨ek,ev⟩:=e
  refine wV (oE (hk _ (.head _))) λt e4=>?_;subst e4
  obtain ⟨⟨u,rfl⟩,_,rfl,rv⟩:=r
  refine aw (hh _ (.head _)) λk0 g1 g2=>?_
  have e1:Str.ofString t=k:=beq_iff_eq.mp p1
  refine ⟨?_,Nat.one_ne_zero,g2.trans (by rw [((PySem.strKind M.prog M.w).inj _ _ _ g1 q1),<-e1];rfl),(show XA=dv from q2)▸rv.mono li⟩
  clear g2 g1 q2 hh;cases ZH with
  | str y u'=>exact ⟨u',by rw [e1,<-(beq_iff_eq.mp q1:y=k)]⟩
  | _=>exact (aaE q1).elim
theorem Kn (W:Wd M) (hh:A.handled=none) (hu:A.units+102 < cLine) (R:Rep M p) {v:Value} {av:AV} (r:VR p v av) (hq:vU av p.H Q):Ev M A p (call (.type "dict") [v]) Q:=λT hT=>by
 refine bU (bK hq) λa e0 h=>?_;subst e0
 obtain ⟨rfl,la⟩:=r
 have h:=h.run
 cases hg:p.H.g a with
 | list xs=>
  rw [hg] at h
  obtain ⟨us,k1,l⟩:=aK R la hg
  refine cU (bE h) λps wT hk h=>?_
  refine callType_codes (Q₁:=λobj s₁=>obj= .ref p.h.objs.size/\s₁=(p.at (p.h.push Mz) p.s.toks).s) PySem.F.kt_called_dict (PySem.F.kt_typeCall_dict_1 _) PySem.F.entry_dict_init (kt_code_dict_new _ ⟨rfl,rfl⟩) ?_
  rintro obj s₁ ⟨rfl,rfl⟩
  obtain ⟨a1,x1⟩:=xm R (t:=p.s.toks)
  have ty:(p.at (p.h.push Mz) p.s.toks).s.TypeIs (.ref p.h.objs.size) "dict":=⟨_,Heap.get?_push_size _ rfl,rfl⟩
  refine aq (aK (p:=p.at (p.h.push Mz) p.s.toks) a1.rep la hg) λus1 k2 l1=>?_
  refine ⟨ty,PySem.F.args_dict_init_2 _ _,?_⟩
  refine wpAny_bind ?_
  refine wpAny_bind (wpAny_notOrdered_dict ty ?_)
  refine wpAny_pure ?_
  show wpAny _ _ (Builtin.Dict.updateFrom "dict.__init__" p.h.objs.size (.ref (p.W.ρ a)) [] .none) _ _ _
  refine wpAny_bind (wpAny_typeOf (T:="list") ⟨_,l1.at_,rfl⟩ ?_)
  refine FC (by decide) ?_
  refine wpAny_bind (aP (DH (A:=A.in1.in1) l1.at_ hh λh' tk MW YD=>bm_if_true rfl ?_))
  have a2:After M c6 (p.at (p.h.push Mz) p.s.toks) (p.at h' tk):= .grow (p:=p.at (p.h.push Mz) p.s.toks) a1.rep ⟨MW,YD⟩
  have x2:=x1.after a2 id
  refine wpAny_bind (wpAny_rule (wpAny_bind (wpAny_pyIter_list (s:=(p.at h' tk).s) (cj (MW _ _ l1.at_)) ?_)))
  refine mo (pQ (p:=p.at h' tk) (t:=tk) (o:={cls:= .type "list_iterator",data:= .fields #[.ref (p.W.ρ a),rawInt 0]}) a2.rep rfl (by decide) rfl) λpv lt gi a3=>?_
  obtain ⟨m,hm,Y6⟩:∃m,m≠0/\∀q∈ps,kk q.1=m:=by
   cases ps with
   | nil=>exact ⟨1,by decide,λzz h=>nomatch h⟩
   | cons q ps=>exact ⟨kk q.1,(hk q.1 (.head _)).1,λr hr=>(hk q.1 (.head _)).2 r.1 (abi hr)⟩
  have st:ck (.obj a) xs 0 p.H:=⟨by show eX (p.H.g a)=_;rw [hg];rfl,by show jk _ (p.H.g a)=_;rw [hg];rfl⟩
  refine wpAny_pure ⟨plainId_quiet c9 _,AX (A:=A.in1) (p:=(p.at h' tk).at _ tk) (a:=a) (m:=m) (xs:=xs) hh (by show A.units+1+101 < cLine;rw [aa9];exact hu) hm ps 0 wT hg a3.rep ⟨⟨la,by show MG _ _ _ _ (p.H.g a);rw [hg];exact ⟨_,gi,rfl,rfl⟩⟩,st,pv,lt⟩ (x2.after a3 id) (λe=>Nat.lt_irrefl _ (e▸x2.lt)) (λzz h=>nomatch h) Y6 (by rw [fE wT];exact aaw (aaS (abE _)) l.len) (λh4 t4 x4 a4=>⟨rfl,?_⟩) 0⟩
  exact x4.tell (p:=p) (((a1.trans a2).trans a3).no.trans a4) (aaF _) R.sz (λx e=>e.elim (λe=>e▸aaF _) λe=>e▸(a1.trans a2).size) h.run hT
 | dict es=>
  rw [hg] at h
  obtain ⟨hk,h⟩:=h
  refine ga (cF R la hg) λzz ds ep D=>?_
  refine aS (nC D hk) λkvs ts hd e1 e2=>?_
  have l:kvs.length=es.length:=by have h1:=congrArg List.length e1;have h2:=congrArg List.length e2;rw [aaB,aaB] at h1 h2;exact h2.trans h1.symm
  have Xc:=hd.dictOf
  refine kt_call_dict (kQ W R la (fF hg)) Xc ((l)▸cV D.len) λh' hm hs=>?_
  obtain ⟨⟨_,_,_,_⟩,BW,Qu,Pu,⟨e1,e2,e3⟩,U0,YK,Tq,W4⟩:=hm
  subst e1;subst e2;subst e3;subst U0
  refine jn Xc λo1 ds1 ep1 GM Za Of Ys SN Yd=>?_
  obtain rfl:=aay (D.at_.symm.trans GM)
  cases Of
  have g:dJ p.h h':=⟨λx o e=>(hs.2 x (aaJ (Heap.lt_size e))).trans (Heap.get?_push_of_some _ e),by rw [hs.1,Heap.size_push];exact aba _⟩
  have a1:After M c6 p (p.at h' p.s.toks):= .grow R g
  exact dK.tell (p:=p) (p':=p.at h' p.s.toks) (es:=es) ⟨R.new (aaF _),R.sz,BW,Qu,Pu,KR D.l a1.lift hk SN Tq λd hd=>YK d (Array.mem_toList_iff.mp hd),D.nd,D.len⟩ a1 (aaF _) R.sz (λzz h=>h.elim) h.run hT
 | _=>replace h:=(hg)▸h;exact h.elim
end
section
variable {M:Mo} {k:Nat} {A:Around} {B:Addr->Prop} {p p':Pt} {Q:KV} {T:Value->Shared->Prop} {vs:List Value} {bG:List AV} {b:Nat}
theorem uc (R:Rep M p) (lb:b < p.n) {xs ys:List AV} (hg:p.H.g b= .list xs) {h':Heap} {us:Array Value} {c:Nat} (hs:Heap.SameBut (p.W.ρ b) p.h h') (ho:h'.get? (p.W.ρ b)=some (m5 us c)) (r:L2 (VR p) us.toList ys) (hz:ys.length<=lim) {t:Nat}:
  After M c6 p ⟨p.W,p.H.set b (.list ys),{p.s with heap:=h',toks:=t}⟩:=nI R lb (tt hg) hs rfl λq e li=>⟨oH R lb hg,us,c,by rw [e];exact ho,wU.mono li r,hz⟩
theorem EX (R:Rep M p) (lb:b < p.n) (q:Gx b "append" Q bG p.H) (r:L2 (VR p) vs bG):Ev M A p (call (.builtin "list.append") (.ref (p.W.ρ b)::vs)) Q:=λT hT=>by
 refine aw (bZ q.run) λxs hg h=>?_
 clear q;obtain ⟨av,rfl,hz,h⟩:=iq h
 refine cf r.aX λv l e0 rv hl=>?_;subst e0
 clear r;obtain rfl:=hl.df
 refine aq (aK R lb hg) λus n l=>?_
 exact wpAny_list_append_plain (items:=us) ⟨n,l.at_⟩ (λh' t0 hs=>uh t0 λn' e=>hT ⟨p.W,p.H.set b _,{p.s with heap:=h',toks:=p.s.toks}⟩ _ .none h.run rfl (uc R lb hg hs e (by rw [Array.toList_push];exact l.l.snoc rv) (by rw [aaD];exact hz))) (by rw [aB l.l];exact cV l.len)
theorem Ft (R:Rep M p) (lb:b < p.n) (q:Gx b "extend" Q bG p.H) (r:L2 (VR p) vs bG):Ev M A p (call (.builtin "list.extend") (.ref (p.W.ρ b)::vs)) Q:=λT hT=>by
 refine aw (bZ q.run) λxs hg h=>?_
 refine bU (iq h) λav e0 h=>?_;subst e0
 clear q;obtain ⟨c,rfl,zQ,h⟩:=bK h
 refine cU (bZ h.run) λys Fa hz h=>?_
 refine cf r.aX λv l e1 t0 hl=>?_;subst e1;obtain ⟨rfl,lc⟩:=t0
 clear r;obtain rfl:=hl.df
 refine aq (aK R lb hg) λus n l=>?_
 refine aq (aK R lc Fa) λws n2 l2=>?_
 have sl:us.size+ws.size<=sizeLine:=by rw [aB l.l,aB l2.l];exact cV hz
 refine call_meets PySem.F.slot_list_extend ⟨_,l.at_,rfl⟩ PySem.F.entry_list_extend (PySem.F.args_list_extend_2 _ _) (PySem.AutoSeq1.list_extend_list_list_0 _ us n _ ws n2 ?_ (aaw (aaM _ _) sl) (abx sl)) ⟨l.at_,l2.at_,?_⟩
 .unfold Builtin.List.listTooLong
  rw [Bool.and_eq_true,decide_eq_true_eq,not_and]
  intro _
  exact aaP.mpr sl
 .exact hT ⟨p.W,p.H.set b _,{p.s with heap:=_,toks:=p.s.toks}⟩ _ .none h.run rfl (uc R lb hg (Heap.SameBut.update ..) (get?_update_seq l.at_ _) (by rw [Array.toList_append];exact l.l.append l2.l) (by rw [aaD];exact hz))
theorem L2.dropLast {α β:Type} {r:α->β->Prop} {l:List α} {m:List β} (h:L2 r l m):L2 r l.dropLast m.dropLast:=by
 rw [List.dropLast_eq_take,List.dropLast_eq_take,h.len]
 exact h.take _
theorem OA (R:Rep M p) (lb:b < p.n) (q:Gx b "pop" Q bG p.H) (r:L2 (VR p) vs bG):Ev M A p (call (.builtin "list.pop") (.ref (p.W.ρ b)::vs)) Q:=λT hT=>by
 refine aw (bZ q.run) λxs hg h=>?_
 clear q;cases bG with
 | cons=>exact h.elim
 | nil=>
  obtain rfl:=r.df
  refine aw (bE h) λav hl h=>?_
  refine aq (aK R lb hg) λus n l=>?_
  rw [List.getLast?_eq_getElem?,<-aB l.l] at hl
  refine aw (l.l.get hl) λv hv rv=>?_
  rw [abh] at hv
  refine Copied.pop_at l.at_ hv (λh' hs e=>?_) (by rw [aB l.l];exact cV l.len)
  have a1:=uc (t:=p.s.toks) R lb hg (ys:=xs.dropLast) hs e (by rw [Array.toList_pop];exact l.l.dropLast) (aaw (by rw [List.length_dropLast];exact Nat.sub_le _ _) l.len)
  exact hT _ _ av h.run (a1.rel rv) a1
theorem OI (W:Wd M) (hu:A.units+102 < cLine) (R:Rep M p) (lb:b < p.n) (q:Kk b "get" Q bG p.H) (r:L2 (VR p) vs bG):Ev M A p (call (.builtin "dict.get") (.ref (p.W.ρ b)::vs)) Q:=λT hT=>by
 refine aw (tC q.run) λes hg h=>?_
 refine ga (cF R lb hg) λzz ds ep D=>?_
 have NM:=aaz (aba _) (rE hu (by decide))
 have sy:=kQ W R lb (fF hg)
 have fin:∀{x d:AV} {o:Option Value} {t:Nat} {u:Value},VR p u d->CP (getD x es) d (kU Q p.H)->(match o with
   | some u=>∃y,getD x es=some y/\VR p u y
   | none=>getD x es=none)->T (o.getD u) (p.at p.h t).s:=λ{x d o t u} ru h ho=>by
  have a:After M c6 p (p.at p.h t):= .toks R t
  cases o with
  | some u=>
   refine aw ho λy e ry=>?_
   rw [e] at h
   exact hT _ _ y h (a.rel ry) a
  | none=>
   rw [show getD x es=none from ho] at h
   exact hT _ _ d h (a.rel ru) a
 clear q;cases bG with
 | nil=>exact h.elim
 | cons x r'=>
  obtain ⟨fit,h⟩:=h
  refine cf r.aX λv l e0 rv hl=>?_;subst e0
  clear r;cases r' with
  | nil=>
   obtain rfl:=hl.df
   refine wpAny_call_entry PySem.F.slot_dict_get ⟨_,D.at_,rfl⟩ PySem.F.entry_dict_get ?_ (PySem.F.args_dict_get_2 _ _)
   show wpAny _ _ (dictGet (p.W.ρ b) v >>= _) _ _ p.s
   refine wpAny_bind (tm NM D rv fit λo t ho=>?_)
   have g:=fin (t:=t) (u:= .none) (d:= .none) rfl h ho
   cases o with
   | some u=>exact wpAny_pure ⟨u,rfl,g⟩
   | none=>
    exact wpAny_bind (wpAny_missed_other sy (wpAny_pure ⟨.none,rfl,g⟩))
  | cons d r'=>
   cases r' with
   | cons=>exact h.elim
   | nil=>
    obtain ⟨w,l,rfl,ZP,hl⟩:=hl.aX
    obtain rfl:=hl.df
    refine wpAny_call_entry PySem.F.slot_dict_get ⟨_,D.at_,rfl⟩ PySem.F.entry_dict_get ?_ (PySem.F.args_dict_get_3 _ _ _)
    show wpAny _ _ (dictGet (p.W.ρ b) v >>= _) _ _ p.s
    refine wpAny_bind (tm NM D rv fit λo t ho=>?_)
    have g:=fin (t:=t) ZP h ho
    cases o with
    | some u=>exact wpAny_pure ⟨u,rfl,g⟩
    | none=>
     exact wpAny_bind (wpAny_missed_other sy (wpAny_pure ⟨w,rfl,g⟩))
theorem nN {k:AV}:∀{es:List (AV × AV)},(wB k es).Sublist es
 | []=>.slnil
 | e::r=>by
  rw [wB]
  cases i8 e.1 k
  .exact nN.cons_cons _
  .exact List.sublist_cons_self _ _
theorem GH (a:Array DictEntry) (i:Nat):(a.eraseIdxIfInBounds i).toList=a.toList.eraseIdx i:=by
 cases a
 simp
theorem Mg (hu:A.units+102 < cLine) (R:Rep M p) (lb:b < p.n) (q:Kk b "pop" Q bG p.H) (r:L2 (VR p) vs bG):Ev M A p (call (.builtin "dict.pop") (.ref (p.W.ρ b)::vs)) Q:=λT hT=>by
 refine aw (tC q.run) λes hg h=>?_
 refine bU (iq h) λav e0 h=>?_;subst e0
 obtain ⟨x,rfl,fit,h⟩:=z9 h
 refine aw (bE h) λy hy h=>?_
 refine cf r.aX λv l e1 rv hl=>?_;subst e1
 clear r;obtain rfl:=hl.df
 refine ga (cF R lb hg) λeδ ds ep D=>?_
 have NM:=aaz (aba _) (rE hu (by decide))
 have ty:=MF D
 have rk:=rv
 obtain ⟨tk0,rfl⟩:=rv
 refine wpAny_call_entry PySem.F.slot_dict_pop ty PySem.F.entry_dict_pop ?_ (PySem.F.args_dict_pop_2 _ _)
 refine wpAny_bind ?_
 refine wpAny_bind (wpAny_notOrdered_dict ty ?_)
 refine wpAny_pure (wpAny_bind (wpAny_pure ?_))
 simp only [Bool.false_eq_true,if_false]
 refine wpAny_bind ?_
 try with_reducible refine wpAny_holding ?_
 refine wpAny_bind (yV (A:=A.in1) (p:=p) (vu (n:=A.in1.units) (m:=100) NM) rk fit.1 λt=>?_)
 have li:fQ p (p.at p.h t):= .grow λzz zz e zz=>e
 refine wpAny_bind (sr (p:=p.at p.h t) NM (D.mono li λzz e=>e) (rk.mono li) fit ?_)
 have e:=oS (.str x) es
 have dl:=wR (.str x) es
 cases q:gB (.str x) es with
 | none=>rw [q,hy] at e;exact nomatch e
 | some i=>
  rw [q] at e dl
  refine uh (yM q) λc hc=>?_
  refine aw (D.l.get hc) λd hd rd=>?_
  rw [abh] at hd
  rw [hy,Option.bind_some,hc] at e
  obtain rfl:=aay e
  refine wpAny_bind (wpAny_dictEntries (s:=(p.at p.h t).s) D.at_ rfl ?_)
  rw [hd]
  have el:ds.size<=sizeLine:=by rw [<-Array.length_toList,D.l.len];exact cV D.len
  refine wpAny_bind (wpAny_updateDictKeys (s:=(p.at p.h t).s) D.at_ rfl ?_ el)
  have hs:Heap.SameBut (p.W.ρ b) p.h (p.h.update (p.W.ρ b) (Obj.mapDictKeys (·.eraseIdxIfInBounds i))):=Heap.SameBut.update ..
  refine wpAny_pure ?_
  simp only [Option.isNone_some,Bool.false_eq_true,if_false]
  have a1:After M c6 p ⟨p.W,p.H.set b (.dict (wB (.str x) es)),{p.s with heap:=p.h.update (p.W.ρ b) (Obj.mapDictKeys (·.eraseIdxIfInBounds i)),toks:=t}⟩:=nI R lb (fF hg) hs rfl λq e li=>⟨eδ,ds.eraseIdxIfInBounds i,ep+1,by rw [e];exact Heap.get?_update_self _ D.at_ rfl,by
   rw [GH,dl]
   exact (D.l.imp λzz zz z=>z.mono li).eraseIdx i,D.nd.sublist (nN.map _),aaw nN.length_le D.len⟩
  exact wpAny_bind (wpAny_letGo (wpAny_pure ⟨_,rfl,hT _ _ c.2 h.run (a1.rel rd.val) a1⟩))
end
section
variable {M:Mo} {k:Nat} {A:Around} {B:Addr->Prop} {p p':Pt} {sc:Scope} {env:Env} {loc:Loc} {Q:KV} {T:Value->Shared->Prop} {x y z:X} {xs:XL} {e f g o u:Expr} {es:List Expr} {q q' ap:Pos} {b:Nat}
theorem pz (o:Expr) (n:Str) (ap:Pos) (as:List Expr) (p:Pos) (env:Env):eval (.Call (.Attribute o n ap) as [] p) env=(do
  let ov <-attributeBase o n env (eval o env)
  standAt ap.atName
  methodCall o n ap p env ov (as.length+0) (backTo p (starEach as env)) (backToKw p (keywordEach [] env))):=rfl
theorem o7 {pos:Pos}:∀{es:List Expr},(∀e∈es,bh e=true)->(backTo pos (starEach es env)).all (λx=>!x.1)=true
 | [],_=>rfl
 | e::es,h=>by
  rw [aT (h e (.head _))]
  show (true&&(backTo pos (starEach es env)).all (λx=>!x.1))=true
  rw [o7 λe he=>h e (.tail _ he)];rfl
theorem fP {n:Str} {ov:Value} (hp:∀e∈es,bh e=true) (hl:es.length<=10) (Go:ap.endLine=q.line):
  methodCall o n ap q env ov (es.length+0) (backTo q (starEach es env)) (backToKw q (keywordEach [] env))=(do
   let (f,first) <-holding [ov] (getMethod ov n (do return (<-importBound o env).getD true))
   callWith q f first (backTo q (starEach es env)) []):=by
 have hf:methodCallForm (es.length+0) (backTo q (starEach es env)) (backToKw q (keywordEach [] env))=true:=by
  unfold methodCallForm
  exact (o7 hp).symm▸decide_eq_true (aaz hl (by decide:10 < 30))
 unfold methodCall
 rw [hf]
 have My:methodCallPos true o env ap q=pure q:=by
  unfold methodCallPos
  rw [if_pos (by rw [Go,beq_self_eq_true];rfl)]
 rw [My]
 rfl
theorem T3 {m:String} {P:Prop} (h:Le m P):P/\(m="append"\/m="extend"\/m="pop"):=by
 unfold Le at h
 split at h
 .exact ⟨h,.inl rfl⟩
 .exact ⟨h,.inr (.inl rfl)⟩
 .exact ⟨h,.inr (.inr rfl)⟩
 .exact h.elim
theorem Tu {m:String} {P:Prop} (h:Lj m P):P/\(m="get"\/m="pop"):=by
 unfold Lj at h
 split at h
 .exact ⟨h,.inl rfl⟩
 .exact ⟨h,.inr rfl⟩
 .exact h.elim
theorem Ew {f:String}:∀{ds:List DictEntry} {fs:List (String × AV)},L2 (vS p) ds fs->tp f fs=none->getL (Str.ofString f) ds=some none:=by
 intro ds fs l
 induction l with
 | nil=>exact λzz=>rfl
 | @cons d mu ds r a b ih=>
  obtain ⟨m,u⟩:=mu
  intro e
  refine uh a.key λt ht=>?_
  have hs:d.key.isStr (Str.ofString f)=(m==f):=by rw [ht];exact cC m f
  have e:(bif m==f then some u else tp f r)=none:=e
  cases q:m==f with
  | true=>replace e:=(q)▸e;cases e
  | false=>
   rw [q] at e hs
   have h1:=ih e
   have hr:d.refKey=false:=by unfold DictEntry.refKey;rw [ht]
   unfold getL at h1 ⊢
   rw [List.find?_cons,hs,List.any_cons,hr]
   exact h1
theorem CW {i:String} {first:List Value} {QL:KL} (L:jD M xs sc es) (z:nv M k A p sc env loc) (hq:xs (Γc M k) loc p.H QL) (h:∀p' vs bG,QL bG p'.H->L2 (VR p') vs bG->After M c6 p p'->wpAny M.m A (call (.builtin i) (first++vs)) T bL p'.s):
  wpAny M.m A (callWith q (.builtin i) first (backTo q (starEach es env)) []) T bL p.s:=callWith_builtin (bq (env:=env) (pos:=q) L.pl) (jo L z hq h)
theorem EB (W:Wd M) {n:Str} {m:String} (hn:cw o=true) (Go:ap.endLine=q.line) (UI:es.length<=10) (hm:n=Str.ofString m) (h1:aA M x sc o) (L:jD M xs sc es):aA M (X.ay x m xs) sc (.Call (.Attribute o n ap) es [] q):=by
 intro k A p env loc Q z hq T hT
 refine be (pz ..) ?_;rw [gD hn]
 refine wpAny_bind (h1 z hq _ λp1 v av q1 r a=>wpAny_bind (wpAny_standAt ?_))
 refine bU (bK q1) λb e0 h=>?_;subst e0
 clear q1 hq;obtain ⟨rfl,lb⟩:=r
 have h:=h.run
 have z1:=z.after a
 refine be (fP L.pl UI Go) ?_;rw [hm]
 cases hg:p1.H.g b with
 | no=>replace h:=(hg)▸h;exact h.elim
 | list ys=>
  replace h:=(hg)▸h
  refine qk (T3 h) λh hm=>?_
  obtain ⟨vs,n,l⟩:=aK a.rep lb hg
  have nd:∀c,Value.ref (p1.W.ρ b)= .ref c->∃o,p1.h.get? c=some o/\o.dict=none:=λc e=>by cases e;exact ⟨_,l.at_,rfl⟩
  have ty:p1.s.TypeIs (.ref (p1.W.ρ b)) "list":=⟨_,l.at_,rfl⟩
  have go:∀id,(∀{p2 vs bG},Rep M p2->b < p2.n->Gx b m Q bG p2.H->L2 (VR p2) vs bG->Ev M A p2 (call (.builtin id) (.ref (p2.W.ρ b)::vs)) Q)->wpAny M.m A (callWith q (.builtin id) [.ref (p1.W.ρ b)] (backTo q (starEach es env)) []) T bL p1.s:=λid g=>
   CW L z1 h λp2 vs bG q2 r2 a2=>a2.ρ b lb▸(g a2.rep (aax lb a2.le) q2 r2).cO (a.trans a2) hT
  rcases hm with rfl | rfl | rfl
  .exact wpAny_bind (wpAny_holding (getMethod_builtin ty PySem.F.plainAttrs_list PySem.F.slot_list_append PySem.F.type_list_append nd (go _ EX)))
  .exact wpAny_bind (wpAny_holding (getMethod_builtin ty PySem.F.plainAttrs_list PySem.F.slot_list_extend PySem.F.type_list_extend nd (go _ Ft)))
  .exact wpAny_bind (wpAny_holding (getMethod_builtin ty PySem.F.plainAttrs_list PySem.F.slot_list_pop PySem.F.type_list_pop nd (go _ OA)))
 | dict ys=>
  rw [hg] at h
  obtain ⟨h,hm⟩:=Tu h
  obtain ⟨_,vs,n,l⟩:=cF a.rep lb hg
  have nd:∀c,Value.ref (p1.W.ρ b)= .ref c->∃o,p1.h.get? c=some o/\o.dict=none:=λc e=>by cases e;exact ⟨_,l.at_,rfl⟩
  have ty:p1.s.TypeIs (.ref (p1.W.ρ b)) "dict":=⟨_,l.at_,rfl⟩
  have go:∀id,(∀{p2 vs bG},Rep M p2->b < p2.n->Kk b m Q bG p2.H->L2 (VR p2) vs bG->Ev M A p2 (call (.builtin id) (.ref (p2.W.ρ b)::vs)) Q)->wpAny M.m A (callWith q (.builtin id) [.ref (p1.W.ρ b)] (backTo q (starEach es env)) []) T bL p1.s:=λid g=>
   CW L z1 h λp2 vs bG q2 r2 a2=>a2.ρ b lb▸(g a2.rep (aax lb a2.le) q2 r2).cO (a.trans a2) hT
  rcases hm with rfl | rfl
  .exact wpAny_bind (wpAny_holding (getMethod_builtin ty PySem.F.plainAttrs_dict PySem.F.slot_dict_get PySem.F.type_dict_get nd (go _ (OI W z.cx.room))))
  .exact wpAny_bind (wpAny_holding (getMethod_builtin ty PySem.F.plainAttrs_dict PySem.F.slot_dict_pop PySem.F.type_dict_pop nd (go _ (Mg z.cx.room))))
 | inst c fs=>
  replace h:=(hg)▸h
  have h:(match tp m fs with
   | some _=>False
   | .none=>opt (aa.lookup (c,m)) λq=>xs (Γc M k) loc p1.H (VT (Γc M k) b q Q)):=h
  cases hf:tp m fs with
  | some=>rw [hf] at h;exact h.elim
  | none=>
   replace h:=(hf)▸h
   refine aw (bE h) λkey hk h=>?_
   refine bj (nj a.rep lb hg) λC ds n i=>?_
   refine aw (oa (aaX.mp W.ok.ay _ (bx hk))) λC' hC hM=>?_
   cases hC.symm.trans (kz i.ca).1
   refine jv (wc hM) λf YP Zr TZ Qw=>?_
   have Fa:=plainGet_of (W.ok.cls c C i.ca).get
   refine wpAny_bind (wpAny_holding (method_fn (W.X.keeps a.rep.base) (show InstAt p1.h (p1.W.ρ b) ⟨.ref C,some (p1.W.δ b),.plain,#[]⟩ C (some (dictOf ds n)) from ⟨i.at_,rfl,rfl,i.dat⟩) Fa.1 Fa.2 Zr (beq_iff_eq.mp TZ) ?_ ?_))
   .show (lookIn (Str.ofString m) (dictOf ds n)).map _=_
    rw [lookIn_dict,Ew i.l hf];rfl
   .have gx:((backTo q (starEach es env)).any (·.1)||(backToKw q (keywordEach [] env)).any (·.1.isNone))=false:=by rw [bq L.pl];rfl
    exact callWith_of gx (keeps_K Qw) (jo L z1 h λp2 vs bG q2 r2 a2=>⟨W.X.keeps a2.rep.base,qZ (q2.1 f YP A p2.W p2.s _ z.cx.call a2.rep (.cons (a2.rel (show VR p1 (.ref (p1.W.ρ b)) (.ref b) from ⟨rfl,lb⟩)) r2) T (hT.step (a.trans a2)))⟩)
end
section
variable {M:Mo} {k:Nat} {A:Around} {B:Addr->Prop} {p p':Pt} {sc:Scope} {env:Env} {loc:Loc} {Q:KV} {T:Value->Shared->Prop} {x y z:X} {xs:XL} {e f g o u:Expr} {es:List Expr} {q q' ap:Pos} {b:Nat}
theorem io:entryFor table "list.extend.loop"=some Builtin.«list.extend.loop»:=entryFor_of_tree (by kernel_rfl)
theorem c0:plainId "list.extend.loop"=true:=by decide+kernel
theorem xe:typeLookup (.type "list_reverseiterator") "__len__"=pure none:=by rw [typeLookup_type,builtinLookup_eq_fast];kernel_rfl
theorem Em:typeLookup (.type "list_reverseiterator") "__length_hint__"=pure (some (.builtin "list_reverseiterator.__length_hint__")):=by rw [typeLookup_type,builtinLookup_eq_fast];kernel_rfl
theorem IB {S L it:Addr} {ws:Array Value} {n2:Nat} {Rr:Result->Shared->Prop} (hh:A.handled=none) (h1:S≠L) (h2:S≠it) (h3:L≠it):∀(k:Nat) (s:Shared) (us:Array Value) (c:Nat),k<=ws.size->s.heap.get? S=some (m5 us c)->s.heap.get? L=some (m5 ws n2)->
  s.heap.IsRevIter it L ((k:Int) - 1)->us.size+k<=sizeLine->(∀h' MB c',MB.toList=us.toList++(ws.toList.take k).reverse->h'.get? S=some (m5 MB c')->(∀x o,x≠S->x≠it->s.heap.get? x=some o->h'.get? x=some o)->s.heap.objs.size<=h'.objs.size->Rr (.ok (.ret .none)) {s with heap:=h'})->
   codeAny M.m A (.builtin "list.extend.loop" ⟨[.ref S,.ref it,.none],[]⟩) Rr s:=by
 intro k
 induction k with
 | zero=>
  intro s us c hk hS hL hit hz hR
  refine codeAny_builtin io ?_
  exact (Around.under_plainId c0 _)▸wpAny_bind (aP (wpAny_pyNext_rev_end (A:=A.in1) hh hit λh' he hz=>wpAny_pure (hR h' us c (aaY _).symm (he S _ h2 hS) (λx o zz hx e=>he x o hx e) hz)))
 | succ k ih=>
  intro s us c hk hS hL hit hz hR
  refine codeAny_builtin io ?_
  rw [Around.under_plainId c0 _]
  rw [show ((k+1:Nat):Int) - 1=(k:Int) from Int.add_sub_cancel (Nat.cast _) 1] at hit
  have Ge:(us.push ws[k]).size+k<=sizeLine:=by rw [Array.size_push,aa9,abg 1];exact hz
  refine wpAny_bind (wpAny_pyNext_rev_item hit (cj hL) (Array.getElem?_eq_getElem hk) λh' pT b9=>?_)
  have V6:=(b9.2 S h2).trans hS
  refine wpAny_bind (listUpdate_at (s:={s with heap:=h'}) V6 rfl ?_ (aaw (aaM _ _) hz) (abx (aaw (aaM _ _) Ge)))
  have Tf:∀x o,x≠S->h'.get? x=some o->(h'.update S (Obj.mapSeq (·.push ws[k]))).get? x=some o:=λx o hx e=>(Heap.get?_update_other _ _ (abm hx)).trans e
  refine wpAny_pure ⟨plainId_quiet c0 _,ih {s with heap:=h'.update S (Obj.mapSeq (·.push ws[k]))} (us.push ws[k]) _ (aaI hk) (get?_update_seq (c:="list") V6 (·.push ws[k])) (Tf L _ (abm h1) ((b9.2 L h3).trans hL)) (pT.at λo e=>Tf it o (abm h2) e) Ge λZ1 MB c' e2 e3 e4 e5=>
   hR Z1 MB c' ?_ e3 (λx o hx Wp e=>e4 x o hx Wp (Tf x o hx ((b9.2 x Wp).trans e))) (by rw [Heap.size_update] at e5;rw [<-b9.1];exact e5)⟩
  rw [e2,Array.toList_push,List.take_add_one,show ws.toList[k]? =some ws[k] by rw [abh];exact Array.getElem?_eq_getElem hk,List.reverse_append,aaW]
  rfl
theorem E9 (hh:A.handled=none) (R:Rep M p) {c:Nat} (lb:b < p.n) (lc:c < p.n) {xs ys:List AV} (hg:p.H.g b= .list xs) (Fa:p.H.g c= .list ys) (zQ:b≠c) (hz:xs.length+ys.length<=lim) {it:Addr} (pv:lA M p it) (hit:p.h.IsRevIter it (p.W.ρ c) ((ys.length:Int) - 1))
  (hT:∀h t,After M (isA it) p ⟨p.W,p.H.set b (.list (xs++ys.reverse)),{p.s with heap:=h,toks:=t}⟩->T .none {p.s with heap:=h,toks:=t}):wpAny M.m A (call (.builtin "list.extend") [.ref (p.W.ρ b),.ref it]) T bL p.s:=by
 refine aq (aK R lb hg) λus k1 l=>?_
 refine aq (aK R lc Fa) λws k2 l2=>?_
 have n2:p.W.ρ b≠it:=λe=>pv.own ⟨b,lb,.inl e.symm⟩
 have QY:p.s.TypeIs (.ref it) "list_reverseiterator":=hit.typeIs
 replace hit:=(aB l2.l).symm▸hit
 refine wpAny_call (codeAny_call_builtin PySem.F.slot_list_extend.plain PySem.F.entry_list_extend (PySem.F.slot_list_extend.check _ _ _ _ _ _ _ _ ⟨_,l.at_,rfl⟩ (PySem.F.args_list_extend_2 _ _) ?_))
 show wpAny _ _ (Builtin.List.listExtendWith (.ref (p.W.ρ b)) (.ref it) .none) _ _ p.s
 refine wpAny_bind (wpAny_typeOf QY ?_)
 have NE:Builtin.List.listSameRef (.ref (p.W.ρ b)) (.ref it)=false:=by simp [Builtin.List.listSameRef,n2]
 rw [NE]
 refine wpAny_ite_split (λmR=>absurd mR (by decide)) (λzz=>wpAny_bind (wpAny_pyIter_revIter hit (wpAny_bind (wpAny_holding ?_))))
 refine wpAny_bind (wpAny_specialOf QY xe (wpAny_ite_split (λmR=>absurd mR (by decide)) (λzz=>wpAny_ite_split (λmR=>absurd mR (by decide)) (λzz=>wpAny_bind (wpAny_specialOf QY Em ?_)))))
 generalize VW:("list_reverseiterator.__length_hint__":String)=Zk
 wp_delta
 rw [show splitId Zk=some ("list_reverseiterator","__length_hint__") from by subst VW;decide+kernel]
 subst VW
 refine wpAny_bind (wpAny_isInstance (T:="list_reverseiterator") (b:=true) QY (by rw [isSubtype_type];kernel_rfl) ?_)
 refine wpAny_ite_split (λmR=>absurd mR (by decide)) (λzz=>wpAny_ite_split (λzz=>wpAny_ite_split (λmR=>absurd mR (by decide)) (λzz=>wpAny_pure ?_)) (λmR=>absurd (by decide+kernel) mR))
 refine wpAny_ite_split (λmR=>absurd mR (by decide+kernel)) (λzz=>wpAny_pure ⟨plainId_quiet c0 _,?_⟩)
 refine IB (A:=A) hh ((R.inj b c lb lc zQ).1) n2 (λe=>pv.own ⟨c,lc,.inl e.symm⟩) ws.size p.s us k1 (aaF _) l.at_ l2.at_ hit (by rw [aB l.l,aB l2.l];exact cV hz) λh' MB c' e1 e2 e3 e4=>hT h' p.s.toks ?_
 refine .set R lb (tt hg) (.inl rfl) e4 (λx (e:x=it)=>e▸pv) (λx o e q1 q2=>e3 x o q1 q2 e) rfl λq e li=>⟨oH R lb hg,MB,c',by rw [e];exact e2,?_,by rw [aaD,List.length_reverse];exact hz⟩
 rw [e1,<-Array.length_toList,List.take_length]
 exact wU.mono li (l.l.append l2.l.rev)
theorem xE (W:Wd M) {n m:Str} {p1 p2:Pos} (hn:cw o=true) (Go:ap.endLine=q.line) (hm:n=Str.ofString "extend") (hr:m=Str.ofString "reversed") (hg:aU sc m=true) (Hp:bh e=true) (h1:aA M x sc o) (h2:aA M y sc e):
  aA M (X.x8 x y) sc (.Call (.Attribute o n ap) [.Call (.Name m p1) [e] [] p2] [] q):=by
 intro k A p env loc Q z hq T hT
 refine be (pz ..) ?_;rw [gD hn]
 have hp:∀f∈[Expr.Call (.Name m p1) [e] [] p2],bh f=true:=λf hf=>by rw [aaK.mp hf];rfl
 refine wpAny_bind (h1 z hq _ λs1 v av w r a=>wpAny_bind (wpAny_standAt ?_))
 refine bU (bK w) λb e0 h=>?_;subst e0
 obtain ⟨rfl,lb⟩:=r
 refine aw (bZ h.run) λys hy h=>?_
 refine aq (aK a.rep lb hy) λus n l=>?_
 refine be (fP hp (by show 1<=10;decide) Go) ?_;rw [hm]
 have nd:∀c,Value.ref (s1.W.ρ b)= .ref c->∃o,s1.h.get? c=some o/\o.dict=none:=λc e=>by cases e;exact ⟨_,l.at_,rfl⟩
 refine wpAny_bind (wpAny_holding (getMethod_builtin ⟨_,l.at_,rfl⟩ PySem.F.plainAttrs_list PySem.F.slot_list_extend PySem.F.type_list_extend nd (callWith_builtin (bq (env:=env) (pos:=q) hp) ?_)))
 rw [aT (hp _ (.head _))]
 refine evalArgs_plain (wpAny_bind (uV W (b:="reversed") (by decide) hg hr (v:= .type "reversed") (by rw [hr];kernel_rfl) (.inl ⟨_,rfl⟩) (.o Hp h2) (z.after a) (QL:=λvs H=>a1 vs λu=>NW b Q u H) h λs2 vs bG q2 r2 a2=>?_))
 refine bU (iq q2) λu e1 q2=>?_;subst e1
 refine bU (bK q2) λc e2 q2=>?_;subst e2
 refine cU (bZ q2.run) λxs X3 zQ q2=>?_
 refine cU (bZ q2.run) λys Fa hz q2=>?_
 refine cf r2.aX λuv l' e3 t0 hl=>?_;subst e3;obtain ⟨rfl,lc⟩:=t0
 clear r2;obtain rfl:=hl.df
 obtain ⟨ws,k1,lw⟩:=aK a2.rep lc Fa
 refine call_reversed_list (cj lw.at_) ?_
 refine mo (pQ (t:=s2.s.toks) (o:=revObj (s2.W.ρ c) ((ws.size:Int) - 1)) a2.rep rfl (by decide) rfl) λpv lt gi a3=>?_
 refine wpAny_bind (wpAny_pure (wpAny_bind (wpAny_holding (spliced_nil (wpAny_pure ?_)))))
 rw [<-a2.ρ b lb]
 refine E9 (p:=s2.at _ s2.s.toks) z.cx.hd a3.rep (aax lb a2.le) lc X3 Fa zQ hz pv ⟨_,gi,rfl,by rw [aB lw.l];rfl⟩ λh4 t4 a4=>?_
 exact hT _ _ .none q2.run rfl ((((a.trans a2).trans a3).no.trans a4).drop λx (e:x=_)=>.inr (e▸(a.trans a2).size))
theorem EO (R:Rep M p) (lb:b < p.n) {xs:List AV} (e:p.H.g b= .list xs\/p.H.g b= .no xs):∃vs,p.h.IsList (p.W.ρ b) vs/\L2 (VR p) vs.toList xs/\xs.length<=lim:=by
 refine e.elim (λe=>?_) λe=>?_
 .refine aq (aK R lb e) λvs n l=>?_
  exact ⟨vs,cj l.at_,l.l,l.len⟩
 .refine aS (NR R lb e) λvs n t0 l hz=>?_;refine aq t0 λd sl h=>?_
  exact ⟨vs,⟨_,h,rfl,n,rfl⟩,l,hz⟩
theorem rP {so:Obj} {ws:List Value} {xs:List AV} (R:Rep M p) (r:L2 (VR p) ws xs) (hz:xs.length<=lim) (hq:Q (.ref p.n) (p.H.push (.list xs))) (hT:AA M p Q T):T (.ref (p.h.objs.size+1)) {p.s with heap:=(p.h.push so).push (m5 ws.toArray 0),toks:=p.s.toks}:=by
 have a3:After M c6 p (p.at (p.h.push so) p.s.toks):= .grow R (.push _ _)
 have g:=iD (t:=p.s.toks) (vs:=ws.toArray) (p:=p.at (p.h.push so) p.s.toks) a3.rep (a3.o4 r) hz hq (hT.step a3)
 rw [show (p.at (p.h.push so) p.s.toks).h.objs.size=p.h.objs.size+1 from Heap.size_push ..] at g
 exact g
theorem Ho (h:kX e=true):∀a b,markedBehindIn a b (eval e env)=markedBehindIn a b (eval e env):=λzz zz=>rfl
theorem D3 {q3:Pos} (hn:kX o=true) (h1:aA M x sc o) (h2:aA M y sc u):aA M (X.yy x y) sc (.Subscript o (.Slice none (some u) none q3) q):=by
 intro k A p env loc Q z hq T hT
 refine wpAny_Subscript_list_slice (h1 z hq _ λp1 v av w r a=>?_) (λzz zz=>by cases o<;>first | rfl | exact (aaE hn).elim)
 refine be (evalPart_none ..) ?_
 refine wpAny_pure ?_
 refine be (evalPart_some ..) ?_
 refine h2 (z.after a) w _ λp2 v2 YT w2 r2 a2=>?_
 refine bU (bK w2) λb e0 h=>?_;subst e0
 refine bU (aG h) λj e1 h=>?_;subst e1
 clear w2;obtain ⟨rfl,lb⟩:=a2.rel r
 obtain ⟨t,rfl⟩:=r2
 obtain ⟨xs,hg,hj,h⟩:∃xs,(p2.H.g b= .list xs\/p2.H.g b= .no xs)/\qF j=true/\nw (.list (xs.take j.toNat)) p2.H Q:=by
  have h:=h.run
  cases e:p2.H.g b with
  | list xs=>rw [e] at h;exact ⟨xs,.inl rfl,fu h⟩
  | no xs=>rw [e] at h;exact ⟨xs,.inr rfl,fu h⟩
  | _=>rw [e] at h;exact h.elim
 refine cU (EO a2.rep lb hg) λws il l hz=>?_
 refine (jW _ ws none (some j) ⟨rfl,il,by rw [aB l];exact cV hz,.none,.int j t,?_⟩)
 refine wV (kG hj) λi e2=>?_;subst e2
 rw [slicePick_upto']
 exact rP a2.rep (l.take i) (aaw (by rw [List.length_take];exact Nat.min_le_right _ _) hz) h.run (hT.step (a.trans a2))
theorem D9 {q3:Pos} (hn:kX o=true) (h1:aA M x sc o) (h2:aA M y sc u):aA M (X.zH x y) sc (.Subscript o (.Slice (some u) none none q3) q):=by
 intro k A p env loc Q z hq T hT
 refine wpAny_Subscript_list_slice (h1 z hq _ λp1 v av w r a=>?_) (λzz zz=>by cases o<;>first | rfl | exact (aaE hn).elim)
 refine be (evalPart_some ..) ?_
 refine h2 (z.after a) w _ λp2 v2 YT w2 r2 a2=>?_
 refine be (evalPart_none ..) ?_
 refine wpAny_pure ?_
 refine bU (bK w2) λb e0 h=>?_;subst e0
 refine bU (aG h) λj e1 h=>?_;subst e1
 clear w2;obtain ⟨rfl,lb⟩:=a2.rel r
 obtain ⟨t,rfl⟩:=r2
 refine aw (bZ h.run) λxs hg h=>?_
 refine qk (fu h) λhj h=>?_
 refine cU (EO a2.rep lb (.inl hg)) λws il l hz=>?_
 refine (jW _ ws (some j) none ⟨rfl,il,by rw [aB l];exact cV hz,.int j t,.none,?_⟩)
 refine wV (kG hj) λi e2=>?_;subst e2
 rw [slicePick_from']
 exact rP a2.rep (l.drop i) (aaw (by rw [List.length_drop];exact Nat.sub_le _ _) hz) h.run (hT.step (a.trans a2))
end
end
section
open PySem PySem.W PySem.Spec PySem.Calls PyProof.Rows PySem.SeqAt PySem.Builtin PySem.Builtin.Bytes
theorem ve:Slot "bytes" "__repr__" "bytes.__repr__":=
 .of (owner:="bytes") (n:="__repr__") (by rw [typeLookup_type,builtinLookup_eq_fast];kernel_rfl) (by decide+kernel) (by decide+kernel) (by decide+kernel) (by first | exact .inl (by decide+kernel) | exact .inr (by decide+kernel)) (by rw [isSubtype_type];kernel_rfl)
theorem sU:entryFor table "bytes.__repr__"=some Builtin.«bytes.__repr__»:=entryFor_of_fast (by kernel_rfl)
theorem uS (a:Value):argsOk "bytes.__repr__" ⟨[a],[]⟩:=by unfold argsOk;kernel_rfl
theorem tM (b:Array UInt8) (t:Tok) (h:b.size<=100):Gives (Builtin.«bytes.__repr__» ⟨[.bytes b t],[]⟩) (.str (literal b)):=by
 show Gives (do let r <-literalAsked b;_) _
 have:literalAsked b=pure (literal b):=by
  unfold literalAsked
  have:tooLong (4*b.size+3+0)=false:=by simp [tooLong,sizeLine];exact aaw (abt 4 h) (by decide)
  rw [this];rfl
 exact (this)▸ .of_eq rfl
section
variable {M:Mo} {A:Around} {p:Pt} {Q:KV}
theorem oM (x:Array UInt8) (t:Tok) (hb:x.size<=100) (oY:(literal x).length<=sizeLine):ReprIs M.prog M.w (.bytes x t) (literal x):=λn hn A E s Q h=>by
 exact (pyReprUnder_leaf (v:= .bytes x t) (aaw (aaM _ _) hn) (λzz e=>nomatch e))▸wpAny_bind (wpAny_pyReprObj_gives (T:="bytes") (typeIs_bytes s x t) ve sU (uS _) (tM x t hb) (wpAny_pure (h _)) (hx:=oY))
theorem gQ {h:Heap} {x y:Addr} {vs vs':Array Value} (hx:IsTup h x vs) (hy:IsTup h y vs') (ne:vs.toList≠vs'.toList):x≠y:=by
 rintro rfl
 refine jB hx λo e zz k hd=>?_
 refine jB hy λo' e' zz k' Gi=>?_
 obtain rfl:=aay (e.symm.trans e')
 replace Gi:=(hd)▸Gi;cases Gi
 exact ne rfl
theorem nJ {h:Heap} {x:Addr} {vs:Array Value} {as:List Addr} {d:Nat} {ts:List Str} (hx:IsTup h x vs) (hn:x ∉ as) (r:ReprAllK M.prog M.w as h d vs.toList ts):ReprK M.prog M.w (x::as) h (d+1) (.ref x) (tupleText ts):=by
 refine jB hx λo ho hc k hd=>?_
 exact ReprK.tuple ho hc hd hn r
theorem Nz {a b:Str} {t t':Tok} (h:a≠b):Value.str a t≠ .str b t':=λe=>h (Value.str.inj e).1
noncomputable def xn (M:Mo) (p:Pt) (v:Value) (t:String):Prop:=∃x items as,v= .ref x/\IsTup p.h x items/\x ∉ as/\∃ts,ReprAllK M.prog M.w as p.h 5 items.toList ts/\tupleText ts=Str.ofString t/\(Str.ofString t).length<=sizeLine
theorem OK {v:Value} (r:VR p v vA):xn M p v tA:=by
 obtain ⟨x,vs,rfl,i0,r⟩:=r.tup
 refine aS r.aX λzz zz e0 t1 r=>?_;obtain ⟨t0,rfl⟩:=t1
 obtain ⟨_,_,rfl,r1,r⟩:=r.aX
 refine aS r.aX λzz zz e2 t4 r9=>?_;subst e2;obtain ⟨t2,rfl⟩:=t4
 clear r;obtain rfl:=r9.df
 clear r;obtain ⟨y,R8,rfl,i1,r1⟩:=r1.tup
 refine aS r1.aX λzz zz e1 t5 r1=>?_;obtain ⟨t3,rfl⟩:=t5
 obtain rfl:=r1.df
 have hy:ReprK M.prog M.w [y] p.h 1 (.ref y) (tupleText [reprText (Str.ofString "dict")]):=nJ (d:=0) i1 (λh=>(aaU h).elim) (by rw [e1];exact .cons (.of_is (.str _ _ (by decide+kernel)) _ _ _) .nil)
 refine (cZ x vs ([y]) ⟨rfl,i0,λh=>?_,[reprText (Str.ofString "to"),tupleText [reprText (Str.ofString "dict")],literal [113,32,81].toArray],?_,by decide+kernel,by decide+kernel⟩)
 .exact gQ i0 i1 (by rw [e0,e1];exact λh=>nomatch (abf h).2) (aaK.mp h)
 .rw [e0]
  exact .cons (.of_is (.str _ _ (by decide+kernel)) _ _ _) (.cons (hy.level_le (by decide)) (.cons (.of_is (oM _ _ (by decide) (by decide+kernel)) _ _ _) .nil))
theorem NK {v:Value} (r:VR p v vB):xn M p v tB:=by
 obtain ⟨x,vs,rfl,i0,r⟩:=r.tup
 refine aS r.aX λzz zz e0 t1 r=>?_;obtain ⟨t0,rfl⟩:=t1
 obtain ⟨_,_,rfl,r1,r⟩:=r.aX
 refine aS r.aX λzz zz e4 t7 r9=>?_;subst e4;obtain ⟨t2,rfl⟩:=t7
 clear r;obtain rfl:=r9.df
 clear r;obtain ⟨y,R8,rfl,i1,r1⟩:=r1.tup
 refine aS r1.aX λzz zz e1 t8 r1=>?_;obtain ⟨t3,rfl⟩:=t8
 obtain ⟨_,_,rfl,r2,r1⟩:=r1.aX
 obtain rfl:=r1.df
 obtain ⟨z,JU,rfl,i2,r2⟩:=r2.tup
 refine aS r2.aX λzz zz e2 t9 r2=>?_;obtain ⟨t4,rfl⟩:=t9
 obtain ⟨_,_,rfl,r3,r2⟩:=r2.aX
 obtain rfl:=r2.df
 obtain ⟨u,Z3,rfl,i3,r3⟩:=r3.tup
 refine aS r3.aX λzz zz e3 YH r3=>?_;obtain ⟨t5,rfl⟩:=YH
 refine aS r3.aX λzz zz e5 YY r9=>?_;subst e5;obtain ⟨t6,rfl⟩:=YY
 clear r3;obtain rfl:=r9.df
 have zu:z≠u:=gQ i2 i3 (by rw [e2,e3];exact λh=>nomatch (abf (abf h).2).1)
 have yz:y≠z:=gQ i1 i2 (by rw [e1,e2];exact λh=>Nz (by decide+kernel) (abf h).1)
 have yu:y≠u:=gQ i1 i3 (by rw [e1,e3];exact λh=>nomatch (abf (abf h).2).1)
 have xy:x≠y:=gQ i0 i1 (by rw [e0,e1];exact λh=>nomatch (abf (abf h).2).2)
 have xz:x≠z:=gQ i0 i2 (by rw [e0,e2];exact λh=>nomatch (abf (abf h).2).2)
 have xu:x≠u:=gQ i0 i3 (by rw [e0,e3];exact λh=>nomatch (abf (abf h).2).2)
 have n1:∀{a b:Addr},a≠b->a ∉ [b]:=λh m=>h (aaK.mp m)
 have n2:∀{a b:Addr} {l:List Addr},a≠b->a ∉ l->a ∉ b::l:=λh g m=>(aaH.mp m).elim h g
 have hu:=nJ (M:=M) (d:=0) (as:=[]) (ts:=[reprText (Str.ofString "int"),toString (1:Int)]) i3 (λh=>(aaU h).elim) (by rw [e3];exact .cons (.of_is (.str _ _ (by decide+kernel)) _ _ _) (.cons (.of_is (.int _ (by decide)) _ _ _) .nil))
 have hz:=nJ (d:=1) (ts:=[reprText (Str.ofString "A"),_]) i2 (n1 zu) (by rw [e2];exact .cons (.of_is (.str _ _ (by decide+kernel)) _ _ _) (.cons hu .nil))
 have hy:=nJ (d:=2) (ts:=[reprText (Str.ofString "dict"),_]) i1 (n2 yz (n1 yu)) (by rw [e1];exact .cons (.of_is (.str _ _ (by decide+kernel)) _ _ _) (.cons hz .nil))
 have all:ReprAllK M.prog M.w [y,z,u] p.h 5 vs.toList [reprText (Str.ofString "to"),tupleText [reprText (Str.ofString "dict"),tupleText [reprText (Str.ofString "A"),tupleText [reprText (Str.ofString "int"),toString (1:Int)]]],literal [102].toArray]:=by
  rw [e0]
  exact .cons (.of_is (.str _ _ (by decide+kernel)) _ _ _) (.cons (hy.level_le (by decide)) (.cons (.of_is (oM _ _ (by decide) (by decide+kernel)) _ _ _) .nil))
 exact (cZ x vs ([y,z,u]) ⟨rfl,i0,n2 xy (n2 xz (n1 xu)),_,all,by decide+kernel,by decide+kernel⟩)
theorem zj (hu:A.units+102 < cLine) (hg:A.guards=some []) (R:Rep M p) {v:Value} {t:String} (k:xn M p v t) (hq:Q (.str t) p.H):Ev M A p (call (.builtin "repr") [v]) Q:=λT hT=>by
 refine u4 k λx items as e0 t0 Yl ts hR ht hz=>?_;subst e0;refine jB t0 λo ho hc n hd=>?_
 refine aP (call_repr_slot (T:="tuple") (aaz (abj (by decide) _) hu) ⟨o,ho,hc⟩ F.slot_tuple_repr ?_)
 refine call_tuple_reprK ho hc hd Yl hR (g:=[]) hg (λb zz=>Clear.nil b) (by show A.units+1+6 < _;exact aaz (abj (by decide:7<=102) _) hu) (λzz zz e=>e) (λh' u tk hk=>(bH _ _ ⟨rfl,λoY=>?_⟩)) (by rw [ht];exact hz)
 rw [ht]
 exact hT (p.at h' tk) _ (.str t) hq ⟨u,rfl⟩ (.grow R ⟨hk,oY⟩)
theorem Kf (hu:A.units+102 < cLine) (hg:A.guards=some []) (R:Rep M p) {vs:List Value} {bG:List AV} (r:L2 (VR p) vs bG) (hq:JZ bG p.H Q):Ev M A p (call (.builtin "repr") vs) Q:=by
 rcases hq with ⟨rfl,hq⟩ | ⟨rfl,hq⟩
 .obtain ⟨v,l,rfl,rv,hl⟩:=r.aX
  cases hl.df
  exact zj hu hg R (OK rv) hq
 .obtain ⟨v,l,rfl,rv,hl⟩:=r.aX
  cases hl.df
  exact zj hu hg R (NK rv) hq
end
end
section
open PySem PySem.W PySem.Spec PySem.Calls PyProof.Rows PySem.SeqAt
section
variable {M:Mo} {k:Nat} {A:Around} {p p':Pt} {sc:Scope} {env:Env} {loc:Loc} {Q:KV} {T:Value->Shared->Prop} {x y z:X} {xs:XL} {e f g o u:Expr} {es:List Expr} {q q' ap:Pos}
theorem FI (W:Wd M) {n d:Str} {c:String} {p1 p2:Pos} (hg:aU sc n=true) (hn:n=Str.ofString "isinstance") (hd:aU sc d=true) (hc:iW gH d=some c) (hp:bh e=true) (h:aA M x sc e):aA M (X.isin x c) sc (.Call (.Name n p1) [e,.Name d p2] [] q):=by
 intro k A p env loc Q z hq T hT
 have s:=cD hc
 refine be (arm_eval_Call_Name' ..) ?_
 refine wpAny_bind (eF W z.eo z.rep hg ((hn)▸wq W (by decide)) (v:= .builtin "isinstance") (by rw [hn];kernel_rfl) ?_)
 rw [aT hp]
 refine callWith_builtin rfl (evalArgs_plain (wpAny_bind (h z hq _ λp1 v av w r a=>wpAny_bind (wpAny_pure (wpAny_bind (wpAny_holding ?_))))))
 refine aw (ID (A:=A) (q:=p2) W (z.eo.after a) a.rep s.2 ((s.1)▸hd)) λcv hv Gv=>?_
 rw [s.1]
 show wpAny _ _ (spliced ((false,eval (.Name (Str.ofString c) p2) env)::[])) _ _ _
 exact wpAny_bind (Gv (wpAny_bind (wpAny_pure (wpAny_bind (wpAny_holding (spliced_nil (wpAny_pure (wpAny_pure (KW W a.rep s.2 hv r w λb t hb=>hT (p1.at p1.h t) _ (.bool b) hb rfl (a.trans (.toks a.rep t)))))))))))
theorem Mv {F:PP} {b:Value} {vs:List Value} {bG:List AV} (r:L2 (VR p) vs bG) (h:a1 bG λv=>F v p.H Q) (g:∀{v av},VR p v av->F av p.H Q->Ev M A p (call b [v]) Q):Ev M A p (call b vs) Q:=by
 refine bU (iq h) λav e0 h=>?_;subst e0
 refine cf r.aX λv l e1 rv hl=>?_;subst e1
 obtain rfl:=hl.df
 exact g rv h
theorem WV {F:AV->PP} {b:Value} {vs:List Value} {bG:List AV} (r:L2 (VR p) vs bG) (h:a2 bG λu v=>F u v p.H Q) (g:∀{u v au av},VR p u au->VR p v av->F au av p.H Q->Ev M A p (call b [u,v]) Q):Ev M A p (call b vs) Q:=by
 refine JH (DM h) λau av e0 h=>?_;subst e0
 refine cf r.aX λu l e1 ru hl=>?_;subst e1
 refine cf hl.aX λv l e2 rv Cm=>?_;subst e2
 obtain rfl:=Cm.df
 exact g ru rv h
theorem IP (W:Wd M) {s:String} (hp:s∈py):∃v,bootBuiltins (Str.ofString s)=some v/\((∃T,v= .type T)\/∃i,v= .builtin i)/\∀{k A p vs bG Q},Cx k A->Rep M p->L2 (VR p) vs bG->JC (Γc M k) s bG p.H Q->Ev M A p (call v vs) Q:=by
 simp only [py,List.mem_cons,List.not_mem_nil,or_false] at hp
 rcases hp with rfl | rfl | rfl | rfl | rfl | rfl | rfl | rfl | rfl | rfl
 .exact ⟨.builtin "len",by kernel_rfl,.inr ⟨_,rfl⟩,λcx R r h=>Mv r h λr h=>Pk W R r h⟩
 .exact ⟨.builtin "abs",by kernel_rfl,.inr ⟨_,rfl⟩,λcx R r h=>Mv r h λr h=>Od R r h⟩
 .exact ⟨.builtin "min",by kernel_rfl,.inr ⟨_,rfl⟩,λcx R r h=>WV r h λr1 r2 h=>Qr cx.hd R r1 r2 h⟩
 .exact ⟨.builtin "max",by kernel_rfl,.inr ⟨_,rfl⟩,λcx R r h=>WV r h λr1 r2 h=>Na cx.hd R r1 r2 h⟩
 .exact ⟨.builtin "sorted",by kernel_rfl,.inr ⟨_,rfl⟩,λcx R r h=>Mv r h λr h=>C1 W cx.hd R r h⟩
 .exact ⟨.type "tuple",by kernel_rfl,.inl ⟨_,rfl⟩,λcx R r h=>Mv r h λr h=>GO R r h⟩
 .exact ⟨.type "list",by kernel_rfl,.inl ⟨_,rfl⟩,λcx R r h=>Mv r h λr h=>K7 R r h⟩
 .exact ⟨.type "dict",by kernel_rfl,.inl ⟨_,rfl⟩,λcx R r h=>Mv r h λr h=>Kn W cx.hd cx.room R r h⟩
 .exact ⟨.type "bytes",by kernel_rfl,.inl ⟨_,rfl⟩,λcx R r h=>Mv r h λr h=>HZ R r h⟩
 .exact ⟨.builtin "repr",by kernel_rfl,.inr ⟨_,rfl⟩,λcx R r h=>Kf cx.room cx.guards R r (h.2 rfl)⟩
theorem CM (W:Wd M) {n:Str} {s:String} {q1:Pos} (hg:aU sc n=true) (hf:n=Str.ofString s) (hs:s∈py) (L:jD M xs sc es):aA M (X.prim s xs) sc (.Call (.Name n q1) es [] q):=λz hq T hT=>
 (IP W hs).elim λv h=>uV W ((by decide:∀s∈py,s∈kJ) s hs) hg hf ((hf)▸h.1) h.2.1 L z hq λp1 vs bG w r a=>(h.2.2 z.cx a.rep r w).cO a hT
theorem qv (W:Wd M) {n m:Str} {q1 q2 q3:Pos} (hg:aU sc n=true) (hn:n=Str.ofString "list") (hm:m=Str.ofString "range") (Fa:aU sc m=true) (L:jD M xs sc es):
  aA M (X.prim "listrange" xs) sc (.Call (.Name n q1) [.Call (.Name m q2) es [] q3] [] q):=by
 intro k A p env loc Q z hq T hT
 refine be (arm_eval_Call_Name' ..) ?_
 have Rh:∀f∈[Expr.Call (.Name m q2) es [] q3],bh f=true:=λe he=>by rw [aaK.mp he];rfl
 refine wpAny_bind (eF W z.eo z.rep hg ((hn)▸wq W (by decide)) (v:= .type "list") (by rw [hn];kernel_rfl) (PySem.callWith_type (bq (env:=env) (pos:=q) Rh) ?_))
 rw [aT (Rh _ (.head _))]
 refine evalArgs_plain (wpAny_bind (uV W (b:="range") (by decide) Fa hm (v:= .type "range") (by rw [hm];kernel_rfl) (.inl ⟨_,rfl⟩) L z hq λp1 vs bG w r a=>?_))
 refine JH (DM w) λu v e0 w=>?_;subst e0
 refine bU (aG w) λi e1 w=>?_;subst e1
 obtain ⟨j,rfl,⟨h1,h2,h3⟩,w⟩:=aG w
 refine cf r.aX λu l e2 t0 hl=>?_;subst e2;obtain ⟨t1,rfl⟩:=t0
 refine cf hl.aX λv l e3 t3 Cm=>?_;subst e3;obtain ⟨t2,rfl⟩:=t3
 clear hl r;obtain rfl:=Cm.df
 refine call_range_2 ?_
 have a1:After M c6 p1 (p1.at _ _):= .grow (t:=p1.s.toks+1) a.rep (.push _ {cls:= .type "range",data:= .fields #[.int i t1,.int j t2,.int 1 p1.s.toks]})
 exact wpAny_bind (wpAny_pure (wpAny_bind (wpAny_holding (spliced_nil (wpAny_pure ((uw (p:=p1.at _ (p1.s.toks+1)) z.cx.hd a1.rep (IsRange.new _ _ _ _ _ _ _) h1 h2 h3 w.run).cO (a.trans a1) hT))))))
end
noncomputable def CV (M:Mo) (x:X) (sc:Scope) (e:Expr):Prop:=dE e=true\/∃(el t it:Expr) (fs:List Expr) (aZ:Scope) (pos:Pos) (tg:Tg) (ik:IK) (iY:XL) (elt:X) (ifs:aj->PC),
 e= .ListComp el [⟨t,it,fs,0⟩] aZ pos/\x=X.aC elt tg ik iY ifs/\gI sc aZ tg/\D6 aZ t=some tg/\ig it=true/\qz M ik iY sc it/\aA M elt aZ el/\fR M ifs aZ fs
structure Ih (M:Mo) (c:CX):Prop where
 X:∀{sc e x},c false sc e=some x->bh e=true/\aA M x sc e/\CV M x sc e
 T:∀{sc e x},c true sc e=some x->bh e=true/\d6 M x sc e
theorem bR {α:Type} {l:List α} {a:α} (h:k8 l=some a):l=[a]:=by
 cases l with
 | nil=>exact (nn h).elim
 | cons b r=>cases r with
  | nil=>obtain rfl:=aay h;rfl
  | cons=>exact (nn h).elim
theorem pS {α:Type} {l:List α} {q:α × α} (h:Ri l=some q):l=[q.1,q.2]:=by
 cases l with
 | nil=>exact (nn h).elim
 | cons b r=>replace h:=bm h;obtain ⟨c,h,rfl⟩:=h;rw [bR h]
theorem eM {α:Type} {l:List α} (h:xA l=true):l=[]:=by
 cases l with
 | nil=>rfl
 | cons=>exact absurd h aaE
theorem BP {e:Expr} {i:Int} (h:Pw e=some i):∃c q,e= .Constant (.int i) c q:=by
 cases e with
 | Constant v c q=>cases v with
  | int j=>obtain rfl:=aay h;exact (bH c q rfl)
  | _=>exact (nn h).elim
 | _=>exact (nn h).elim
theorem km {e:Expr} (h:tX e=true):∃c q,e= .Constant .none c q:=by
 cases e with
 | Constant v c q=>cases v with
  | none=>exact (bH c q rfl)
  | _=>exact (aaE h).elim
 | _=>exact (aaE h).elim
theorem hW {e:Expr} {g:Str × List Expr} (h:jf e=some g):∃q1 q,e= .Call (.Name g.1 q1) g.2 [] q:=by
 cases e with
 | Call f as kw q=>
  refine qk (bg h) λh1 h=>?_
  refine aw (bm h) λy h2 e0=>?_;subst e0
  obtain ⟨q1,rfl⟩:=gP h2
  exact (eM h1)▸(bH q1 q rfl)
 | _=>exact (nn h).elim
theorem ba {a b:Bool} (h:(a&&b)=true):a=true/\b=true:=aaV.mp h
section
variable {M:Mo} {c:CX} {sc aZ:Scope} {x y:X} {xs:XL} {e l r:Expr} {es:List Expr} {q q':Pos}
theorem lG (I:Ih M c):∀{es:List Expr} {l:List X},yh c sc es=some l->L2 (λx e=>bh e=true/\aA M x sc e) l es
 | [],l,h=>by obtain rfl:=aay h;exact .nil
 | e::es,l,h=>by
  refine aw (bb h) λx h1 h=>?_
  replace h:=bm h;refine aw h λl h2 e0=>?_;subst e0
  have z:=I.X h1
  exact .cons ⟨z.1,z.2.1⟩ (lG I h2)
theorem Cs {l:List X} (s:L2 (λx e=>bh e=true/\aA M x sc e) l es):jD M (vo l) sc es:=by
 induction s with
 | nil=>exact ⟨λzz h=>((aaU h).elim),kV,λzz=>rfl⟩
 | cons h _ ih=>exact ⟨λe he=>(aaH.mp he).elim (λq=>q▸h.1) (ih.pl e),gJ h.1 h.2 ih.snd,(nomatch ·)⟩
theorem c8 (I:Ih M c) (h:dU c sc es=some xs):jD M xs sc es:=by
 replace h:=bm h;obtain ⟨l,h,rfl⟩:=h
 exact Cs (lG I h)
theorem Ed {v:Const} {k:Nat} (h:JB v=some x):aA M x sc (.Constant v k q):=by
 cases v with
 | none=>obtain rfl:=aay h;intro _ _ _ _ _ _;exact Fb
 | bool=>obtain rfl:=aay h;intro _ _ _ _ _ _;exact DP
 | int=>obtain rfl:=aay h;intro _ _ _ _ _ _;exact Hr
 | bytes=>obtain rfl:=aay h;intro _ _ _ _ _ _;exact A6
 | str t=>
  replace h:=bm h;obtain ⟨s,h,rfl⟩:=h
  rw [ky h]
  intro _ _ _ _ _ _;exact Ia
 | _=>exact (nn h).elim
theorem lZ {op:CmpOp} {a:X} (h:pH c sc op r a=some x):(∃n k q',op=(bif n then .IsNot else .Is)/\r= .Constant .none k q'/\x=bif n then X.bJ a else X.isNone a)\/∃o y,o3 op=some o/\c false sc r=some y/\x=X.cmp o a y:=by
 have key:∀op,((o3 op).bind λo=>(c false sc r).map (X.cmp o a))=some x->∃o y,o3 op=some o/\c false sc r=some y/\x=X.cmp o a y:=λop h=>by
  refine aw (bb h) λo h1 h=>?_
  refine aw (bm h) λy h2 h=>?_
  exact (bH o y ⟨h1,h2,h.symm⟩)
 cases op with
 | Is=>
  obtain ⟨h1,h⟩:=bg h
  obtain ⟨k,q',rfl⟩:=km h1
  exact .inl (cZ false k q' ⟨rfl,rfl,(aay h).symm⟩)
 | IsNot=>
  obtain ⟨h1,h⟩:=bg h
  obtain ⟨k,q',rfl⟩:=km h1
  exact .inl (cZ true k q' ⟨rfl,rfl,(aay h).symm⟩)
 | _=>exact .inr (key _ h)
theorem Cy (W:Wd M) (I:Ih M c) {op:CmpOp} {a:X} (ha:aA M a sc l) (h:pH c sc op r a=some x):aA M x sc (.Compare l [op] [r] q):=by
 rcases lZ h with ⟨n,k,q',rfl,rfl,rfl⟩ | ⟨o,y,h1,h2,rfl⟩
 .intro _ _ _ _ _ _;exact GP n ha
 .intro _ _ _ _ _ _;exact GF W h1 (I.X h2).1 ha (I.X h2).2.1
theorem FM (W:Wd M) (I:Ih M c) {op:CmpOp} {a:X} (ha:aA M a sc l) (h:pH c sc op r a=some x):d6 M x sc (.Compare l [op] [r] q):=by
 rcases lZ h with ⟨n,k,q',rfl,rfl,rfl⟩ | ⟨o,y,h1,h2,rfl⟩
 .intro _ _ _ _ _ _;exact DG n ha
 .intro _ _ _ _ _ _;exact Ep W h1 (I.X h2).1 ha (I.X h2).2.1
theorem xW (I:Ih M c) {a:X} (ha:aA M a sc l) (h:Af c sc l a r=some x):aA M x sc (.Subscript l r q):=by
 have idx:∀{r},(c false sc r).map (X.idx a)=some x->aA M x sc (.Subscript l r q):=λh'=>by
  replace h':=bm h';obtain ⟨y,h2,rfl⟩:=h'
  intro _ _ _ _ _ _;exact IA (I.X h2).1 ha (I.X h2).2.1
 cases r with
 | Slice lo hi st q3=>
  replace h:(bif kX l&&st.isNone then EF c sc a lo hi else .none)=some x:=h
  cases hb:kX l&&st.isNone with
  | false=>rw [hb] at h;exact (nn h).elim
  | true=>
   rw [hb] at h
   have hn:=aaV.mp hb
   cases st with
   | some=>exact (aaE hn.2).elim
   | none=>
    cases lo with
    | none=>
     cases hi with
     | none=>exact (nn h).elim
     | some u=>
      replace h:=bm h;obtain ⟨y,h,rfl⟩:=h
      intro _ _ _ _ _ _;exact D3 hn.1 ha (I.X h).2.1
    | some u=>
     cases hi with
     | some=>exact (nn h).elim
     | none=>
      replace h:=bm h;obtain ⟨y,h,rfl⟩:=h
      intro _ _ _ _ _ _;exact D9 hn.1 ha (I.X h).2.1
 | _=>exact @idx _ h
theorem wM (W:Wd M) (I:Ih M c) {n:Str} {s:String} {q1:Pos} (hg:aU sc n=true) (hf:n=Str.ofString s) (hs:s∈py) (h:oz c sc s es=some x):aA M x sc (.Call (.Name n q1) es [] q):=by
 have plain:(dU c sc es).map (X.prim s)=some x->aA M x sc (.Call (.Name n q1) es [] q):=λh'=>by
  replace h':=bm h';obtain ⟨xs,h2,rfl⟩:=h'
  intro _ _ _ _ _ _;exact CM W hg hf hs (c8 I h2)
 unfold oz at h
 cases h1:(k8 es).bind jf with
 | none=>replace h:=(h1)▸h;intro _ _ _ _ _ _;exact plain h
 | some g=>
  replace h:=(h1)▸h
  cases hb:s=="list"&&aU sc "range"&&(g.1==("range":Str)) with
  | false=>dsimp only at h;replace h:=(hb)▸h;intro _ _ _ _ _ _;exact plain h
  | true=>
   dsimp only at h;replace h:=(hb)▸h
   clear plain;obtain ⟨e,h2,h3⟩:=bb h1
   obtain ⟨q2,q3,rfl⟩:=hW h3
   rw [bR h2]
   replace h:=bm h;obtain ⟨xs,h,rfl⟩:=h
   have hb:=ba hb
   have hm:=beq_iff_eq.mp hb.2
   have WO:=ba hb.1
   intro _ _ _ _ _ _;exact qv W hg (by rw [hf,beq_iff_eq.mp WO.1]) hm (hm▸WO.2) (c8 I h)
theorem DO (W:Wd M) (I:Ih M c) {n:Str} {q1:Pos} (hg:aU sc n=true) (h:CC c sc n es=some x):aA M x sc (.Call (.Name n q1) es [] q):=by
 unfold CC at h
 cases h1:iW nO n with
 | some f=>
  rw [h1] at h
  replace h:=bm h;obtain ⟨xs,h,rfl⟩:=h
  intro _ _ _ _ _ _;exact CQ W hg h1 (c8 I h)
 | none=>
  rw [h1] at h
  cases h2:iW insts n with
  | some f=>
   dsimp only at h;rw [h2] at h
   replace h:=bm h;obtain ⟨xs,h,rfl⟩:=h
   intro _ _ _ _ _ _;exact IJ W hg h2 (c8 I h)
  | none=>
   dsimp only at h;replace h:=(h2)▸h
   cases h3:iW py n with
   | some p=>
    dsimp only at h;replace h:=(h3)▸h
    intro _ _ _ _ _ _;exact wM W I hg (cD h3).1 (cD h3).2 h
   | none=>
    dsimp only at h;replace h:=(h3)▸h
    obtain ⟨hn,h⟩:=bg h
    obtain ⟨p,h4,h⟩:=bb h
    obtain ⟨d,h5,h⟩:=bb h
    obtain ⟨k,h6,h⟩:=bb h
    obtain ⟨h7,h⟩:=bg h
    obtain ⟨y,h8,rfl⟩:=bm h
    clear h;obtain ⟨e1,e2⟩:=p
    clear h;obtain ⟨q2,rfl⟩:=gP h5
    rw [pS h4]
    intro _ _ _ _ _ _;exact FI W hg (beq_iff_eq.mp hn) h7 h6 (I.X h8).1 (I.X h8).2.1
theorem uQ (W:Wd M) (I:Ih M c) (h:vq c sc l es q=some x):aA M x sc (.Call l es [] q):=by
 cases l with
 | Name g q1=>
  obtain ⟨h1,h⟩:=bg h
  intro _ _ _ _ _ _;exact DO W I h1 h
 | Attribute o n ap=>
  obtain ⟨h1,h⟩:=bg h
  have h1:=ba h1
  have h2:=ba h1.1
  have Go:=Nat.eq_of_beq_eq_true h2.2
  have hl:=Nat.ble_eq.mp h1.2
  obtain ⟨a,ha,h⟩:=bb h
  have ha:=I.X ha
  unfold J0 at h
  cases hr:PZ sc es with
  | some v=>
   replace h:=(hr)▸h
   obtain ⟨h3,h⟩:=bg h
   obtain ⟨y,h4,rfl⟩:=bm h
   obtain ⟨e,g1,hr⟩:=bb hr
   obtain ⟨g,g2,hr⟩:=bb hr
   obtain ⟨g3,g4⟩:=bg hr
   obtain ⟨q2,q3,rfl⟩:=hW g2
   have g3:=ba g3
   rw [bR g1,bR g4]
   intro _ _ _ _ _ _;exact xE W h2.1 Go (beq_iff_eq.mp h3) (beq_iff_eq.mp g3.1) g3.2 (I.X h4).1 ha.2.1 (I.X h4).2.1
  | none=>
   replace h:=(hr)▸h
   obtain ⟨m,h3,h⟩:=bb h
   obtain ⟨xs,h4,rfl⟩:=bm h
   intro _ _ _ _ _ _;exact EB W h2.1 Go hl (cD h3).1 ha.2.1 (c8 I h4)
 | _=>exact (nn h).elim
end
section
variable {M:Mo} {c:CX} {sc aZ:Scope} {x y:X} {xs:XL} {e l r:Expr} {es:List Expr} {q q':Pos}
theorem zM (W:Wd M) (I:Ih M c) {z:IK × XL} (h:Mk c sc e=some z):ig e=true/\qz M z.1 z.2 sc e:=by
 refine qk (bg h) λh1 h=>?_
 refine ⟨h1,?_⟩
 have plain:(c false sc e).map (λx=>(IK.plain,XL.o x))=some z->qz M z.1 z.2 sc e:=λh'=>by
  replace h':=bm h';obtain ⟨x,h2,rfl⟩:=h'
  intro _ _ _ _ _ _;exact xw W (I.X h2).2.1
 clear h1;cases h2:jf e with
 | none=>rw [h2] at h;exact @plain h
 | some g=>
  rw [h2] at h
  obtain ⟨q1,q,rfl⟩:=hW h2
  cases h3:aU sc g.1 with
  | false=>dsimp only at h;replace h:=(h3)▸h;exact (nn h).elim
  | true=>
   dsimp only at h;replace h:=(h3)▸h
   cases h4:g.1==("range":Str) with
   | true=>
    replace h:=(h4)▸h
    obtain ⟨a,h5,h⟩:=bb h
    replace h:=bm h;obtain ⟨x,h6,rfl⟩:=h
    rw [bR h5]
    intro _ _ _ _ _ _;exact yr W (beq_iff_eq.mp h4) h3 (I.X h6).1 (I.X h6).2.1
   | false=>
    rw [h4] at h
    cases h7:g.1==("reversed":Str) with
    | true=>
     replace h:=(h7)▸h
     obtain ⟨a,h5,h⟩:=bb h
     replace h:=bm h;obtain ⟨x,h6,rfl⟩:=h
     rw [bR h5]
     intro _ _ _ _ _ _;exact Dk W (beq_iff_eq.mp h7) h3 (I.X h6).1 (I.X h6).2.1
    | false=>replace h:=(h7)▸h;exact @plain h
theorem IT (I:Ih M c) {z:aj->PC} (h:QQ c sc es=some z):fR M z sc es:=by
 cases es with
 | nil=>obtain rfl:=aay h;exact yk
 | cons e r=>
  cases r with
  | cons=>exact (nn h).elim
  | nil=>
   replace h:=bm h;obtain ⟨x,h2,rfl⟩:=h
   intro _ _ _ _ _ _;exact xL (I.T h2).2
theorem BK (W:Wd M) (I:Ih M c) {g:Comprehension} (h:CD c sc aZ e g=some x):aA M x sc (.ListComp e [g] aZ q)/\CV M x sc (.ListComp e [g] aZ q):=by
 refine aw (bb h) λtg h1 h=>?_
 refine qk (bg h) λh2 h=>?_
 refine aw (bb h) λz h3 h=>?_
 refine aw (bb h) λelt h4 h=>?_
 replace h:=bm h;obtain ⟨ifs,h5,rfl⟩:=h
 have h2:=ba h2
 have co:=vj h2.2
 have s:=zM W I h3
 have f:fR M ifs aZ g.ifs:=IT I h5
 clear h5 h3 h;obtain ⟨t,it,fs,a⟩:=g
 clear h;cases (beq_iff_eq.mp h2.1:a=0)
 exact ⟨by intro _ _ _ _ _ _;exact wP co h1 s.1 s.2 (I.X h4).2.1 f,.inr (vL e t it fs aZ q tg ⟨z.1,z.2,elt,ifs,rfl,rfl,co,h1,s.1,s.2,(I.X h4).2.1,f⟩)⟩
theorem uJ (W:Wd M) (I:Ih M c) (h:u7 c sc e=some x):aA M x sc e/\CV M x sc e:=by
 have nc:aA M x sc e->dE e=true->aA M x sc e/\CV M x sc e:=λh g=>⟨h,.inl g⟩
 cases e with
 | Constant v k q=>exact nc (Ed h) rfl
 | Name n q=>
  refine nc ?_ rfl
  unfold u7 at h
  dsimp only at h
  cases h1:sJ sc n with
  | some s=>rw [h1] at h;obtain rfl:=aay h;intro _ _ _ _ _ _;exact tq h1
  | none=>
   replace h:=(h1)▸h
   obtain ⟨h2,h⟩:=bg h
   replace h:=bm h;obtain ⟨s,h3,rfl⟩:=h
   intro _ _ _ _ _ _;exact Ec W h2 h3
 | UnaryOp op a q=>
  refine nc ?_ rfl
  cases op with
  | Not=>replace h:=bm h;obtain ⟨y,h2,rfl⟩:=h;intro _ _ _ _ _ _;exact Ie (I.X h2).2.1
  | USub=>replace h:=bm h;obtain ⟨i,h2,rfl⟩:=h;obtain ⟨k,q,rfl⟩:=BP h2;intro _ _ _ _ _ _;exact G4
  | _=>exact (nn h).elim
 | Tuple es k q=>refine nc ?_ rfl;replace h:=bm h;obtain ⟨xs,h2,rfl⟩:=h;intro _ _ _ _ _ _;exact Jd (c8 I h2).snd
 | List es q=>refine nc ?_ rfl;replace h:=bm h;obtain ⟨xs,h2,rfl⟩:=h;intro _ _ _ _ _ _;exact F0 (c8 I h2).snd
 | Dict ks vs q=>
  refine nc ?_ rfl
  obtain ⟨h1,h⟩:=bg h
  have h1:=ba h1
  obtain ⟨Z5,h2,h⟩:=bb h
  replace h:=bm h;obtain ⟨xs,h3,rfl⟩:=h
  replace h3:=bm h3;obtain ⟨l,h3,rfl⟩:=h3
  intro _ _ _ _ _ _;exact DZ h2 (Nat.eq_of_beq_eq_true h1.1) (Nat.ble_eq.mp h1.2) ((lG I h3).imp λzz zz z=>z.2)
 | BinOp l op r q=>
  refine nc ?_ rfl
  obtain ⟨o,h1,h⟩:=bb h
  obtain ⟨a,h2,h⟩:=bb h
  replace h:=bm h;obtain ⟨b,h3,rfl⟩:=h
  intro _ _ _ _ _ _;exact HT h1 (I.X h2).2.1 (I.X h3).2.1
 | Compare l ops rs q=>
  refine nc ?_ rfl
  obtain ⟨op,h1,h⟩:=bb h
  obtain ⟨r,h2,h⟩:=bb h
  obtain ⟨a,h3,h⟩:=bb h
  rw [bR h1,bR h2]
  intro _ _ _ _ _ _;exact Cy W I (I.X h3).2.1 h
 | BoolOp op es q=>
  refine nc ?_ rfl
  obtain ⟨p,h1,h⟩:=bb h
  obtain ⟨a,h2,h⟩:=bb h
  replace h:=bm h;obtain ⟨b,h3,rfl⟩:=h
  rw [pS h1]
  cases op with
  | And=>intro _ _ _ _ _ _;exact G2 (I.X h2).2.1 (I.X h3).2.1
  | Or=>intro _ _ _ _ _ _;exact Lf (I.X h2).2.1 (I.X h3).2.1
 | IfExp t a b q=>
  refine nc ?_ rfl
  obtain ⟨x1,h1,h⟩:=bb h
  obtain ⟨x2,h2,h⟩:=bb h
  replace h:=bm h;obtain ⟨x3,h3,rfl⟩:=h
  intro _ _ _ _ _ _;exact IZ (I.T h1).2 (I.X h2).2.1 (I.X h3).2.1
 | Attribute v m q=>
  refine nc ?_ rfl
  obtain ⟨h1,h⟩:=bg h
  obtain ⟨n,h2,h⟩:=bb h
  replace h:=bm h;obtain ⟨y,h3,rfl⟩:=h
  have s:=cD h2
  rw [s.1]
  intro _ _ _ _ _ _;exact Hh W s.2 h1 (I.X h3).2.1
 | Subscript v s q=>
  refine nc ?_ rfl
  obtain ⟨a,h1,h⟩:=bb h
  intro _ _ _ _ _ _;exact xW I (I.X h1).2.1 h
 | Call f as kw q=>
  refine nc ?_ rfl
  obtain ⟨h1,h⟩:=bg h
  rw [eM h1]
  intro _ _ _ _ _ _;exact uQ W I h
 | ListComp e gs aZ q=>
  refine aw (bb h) λg h1 h=>?_
  exact (bR h1)▸BK W I h
 | _=>exact (nn h).elim
theorem Fq (W:Wd M) (I:Ih M c) (h:J4 c sc e=some x):d6 M x sc e:=by
 have key:∀e,u7 c sc e=some x->(∀env whole,isTrue e env whole=(do let v <-whole;standAt e.pos;holding [v] (truthy v)))->d6 M x sc e:=λe h he=>by
  intro _ _ _ _ _ _
  exact IU (uJ W I h).1 he
 cases e with
 | UnaryOp op a q=>
  cases op with
  | Not=>replace h:=bm h;obtain ⟨y,h2,rfl⟩:=h;intro _ _ _ _ _ _;exact Cv (I.T h2).2
  | _=>exact (nn h).elim
 | Compare l ops rs q=>
  cases ops with
  | nil=>exact (nn h).elim
  | cons op qs=>
   obtain ⟨a,h1,h⟩:=bb h
   cases qs with
   | nil=>
    obtain ⟨r,h2,h⟩:=bb h
    rw [bR h2]
    intro _ _ _ _ _ _;exact FM W I (I.X h1).2.1 h
   | cons o2 qs=>
    obtain ⟨h0,h⟩:=bg h
    obtain ⟨r,h2,h⟩:=bb h
    obtain ⟨o,h3,h⟩:=bb h
    obtain ⟨p,h4,h⟩:=bb h
    obtain ⟨y,h5,h⟩:=bb h
    replace h:=bm h;obtain ⟨z,h6,rfl⟩:=h
    rw [eM h0,pS h2]
    intro _ _ _ _ _ _;exact Bo W h3 h4 (I.X h6).1 (I.X h1).2.1 (I.X h5).2.1 (I.X h6).2.1
 | BoolOp op es q=>
  cases es with
  | nil=>exact (nn h).elim
  | cons e r=>
   obtain ⟨a,h1,h⟩:=bb h
   cases r with
   | nil=>exact (nn h).elim
   | cons f r=>
    obtain ⟨b,h2,h⟩:=bb h
    cases r with
    | nil=>
     cases op with
     | And=>cases h;intro _ _ _ _ _ _;exact EV (I.T h1).2 (I.T h2).2
     | Or=>cases h;intro _ _ _ _ _ _;exact IM (I.T h1).2 (I.T h2).2
    | cons g r=>
     cases op with
     | And=>exact (nn h).elim
     | Or=>
      obtain ⟨h0,h⟩:=bg h
      replace h:=bm h;obtain ⟨d,h3,rfl⟩:=h
      rw [eM h0]
      intro _ _ _ _ _ _;exact CE (I.T h1).2 (I.T h2).2 (I.T h3).2
 | IfExp=>exact (nn h).elim
 | NamedExpr=>exact (nn h).elim
 | _=>exact @key _ h λzz zz=>rfl
theorem nq (W:Wd M) (n:Nat):Ih M (comp n):=by
 induction n with
 | zero=>exact ⟨λh=>(nn h).elim,λh=>(nn h).elim⟩
 | succ n I=>exact ⟨λh=>have h:=bg h;⟨h.1,uJ W I h.2⟩,λh=>have h:=bg h;⟨h.1,Fq W I h.2⟩⟩
theorem yC (W:Wd M) (I:Ih M c) {s:S} {o v:Expr} {m:Str} (h:Ek c sc (.Attribute o m q') v=some s):eE M s sc (.Assign [.Attribute o m q'] v q):=by
 obtain ⟨h0,h⟩:=bg h
 obtain ⟨n,h1,h⟩:=bb h
 obtain ⟨a,h2,h⟩:=bb h
 replace h:=bm h;obtain ⟨y,h3,rfl⟩:=h
 have s:=cD h1
 rw [s.1]
 intro _ _ _ _ _ _;exact BO W s.2 (ba h0).1 (I.X h2).2.1 (I.X h3).2.1
theorem EU (W:Wd M) (I:Ih M c) {s:S} {t v:Expr} (h:Ek c sc t v=some s):eE M s sc (.Assign [t] v q):=by
 cases t with
 | Name n q'=>
  obtain ⟨x,h1,h⟩:=bb h
  replace h:=bm h;obtain ⟨y,h2,rfl⟩:=h
  obtain ⟨_,hv,cv⟩:=I.X h2
  rcases cv with hc | ⟨el,t,it,fs,aZ,pos,tg,ik,iY,elt,ifs,rfl,rfl,g1,g2,g3,g4,g5,g6⟩
  .intro _ _ _ _ _ _;exact DN h1 hc hv
  .intro _ _ _ _ _ _;exact su h1 g1 g2 g3 g4 g5 g6
 | Tuple ts k q'=>
  obtain ⟨h0,h⟩:=bg h
  obtain ⟨xs,h1,h⟩:=bb h
  replace h:=bm h;obtain ⟨y,h2,rfl⟩:=h
  intro _ _ _ _ _ _;exact Cl h1 (ba h0).1 (ba h0).2 (I.X h2).2.1
 | Subscript o i q'=>
  obtain ⟨h0,h⟩:=bg h
  obtain ⟨a,h1,h⟩:=bb h
  obtain ⟨b,h2,h⟩:=bb h
  replace h:=bm h;obtain ⟨y,h3,rfl⟩:=h
  intro _ _ _ _ _ _;exact BB h0 (I.X h1).2.1 (I.X h2).2.1 (I.X h3).2.1
 | Attribute=>intro _ _ _ _ _ _;exact yC W I h
 | _=>exact (nn h).elim
theorem nY (W:Wd M) (I:Ih M c) {b:Scope->List Stmt->Option SL} (hb:∀{sc l x},b sc l=some x->jH M x sc l) {s:S} {st:Stmt} (h:lV c b sc st=some s):eE M s sc st:=by
 cases st with
 | Assign ts v q=>
  obtain ⟨t,h1,h⟩:=bb h
  rw [bR h1]
  intro _ _ _ _ _ _;exact EU W I h
 | Expr v q=>
  obtain ⟨h0,h⟩:=bg h
  replace h:=bm h;obtain ⟨y,h1,rfl⟩:=h
  intro _ _ _ _ _ _;exact B5 h0 (I.X h1).2.1
 | If t p r q=>
  obtain ⟨x,h1,h⟩:=bb h
  obtain ⟨y,h2,h⟩:=bb h
  replace h:=bm h;obtain ⟨z,h3,rfl⟩:=h
  intro _ _ _ _ _ _;exact Ix (I.T h1).2 (hb h2) (hb h3)
 | While t p r q=>
  obtain ⟨h0,h⟩:=bg h
  obtain ⟨x,h1,h⟩:=bb h
  replace h:=bm h;obtain ⟨y,h2,rfl⟩:=h
  rw [eM h0]
  intro _ _ _ _ _ _;exact yS (I.T h1).2 (hb h2)
 | For t it p r q=>
  obtain ⟨h0,h⟩:=bg h
  obtain ⟨tg,h1,h⟩:=bb h
  obtain ⟨z,h2,h⟩:=bb h
  replace h:=bm h;obtain ⟨y,h3,rfl⟩:=h
  have g:=zM W I h2
  rw [eM h0]
  intro _ _ _ _ _ _;exact Df g.1 h1 g.2 (hb h3)
 | Return v q=>
  obtain ⟨v,rfl,h⟩:=bb h
  replace h:=bm h;obtain ⟨y,h2,rfl⟩:=h
  intro _ _ _ _ _ _;exact Fr (I.X h2).2.1
 | Continue=>obtain rfl:=aay h;intro _ _ _ _ _ _;exact BC
 | Break=>obtain rfl:=aay h;intro _ _ _ _ _ _;exact FQ
 | Raise=>obtain rfl:=aay h;intro _ _ _ _ _ _;exact λzz h=>h.elim
 | _=>exact (nn h).elim
theorem iQ (W:Wd M) (n:Nat):∀{sc l x},dz n sc l=some x->jH M x sc l:=by
 induction n with
 | zero=>exact λh=>(nn h).elim
 | succ n ih=>
  intro sc l x h
  cases l with
  | nil=>obtain rfl:=aay h;exact rW
  | cons s r=>
   obtain ⟨a,h1,h⟩:=bb h
   replace h:=bm h;obtain ⟨y,h2,rfl⟩:=h
   intro _ _ _ _ _ _;exact nW (nY W (nq W n) ih h1) (ih h2)
end
theorem og {α:Type}:∀{ns:List Str} {vs:List α} {n:Str},ns.length=vs.length->n∈ns->((ns.zip vs).lookup n).isSome=true
 | m::ns,v::vs,n,e,h=>by
  rw [List.zip_cons_cons,List.lookup_cons]
  cases q:n==m with
  | true=>rfl
  | false=>exact og (Nat.succ.inj e) ((aaH.mp h).resolve_left (beq_eq_false_iff_ne.mp q))
theorem rt {α:Type}:∀{ns:List Str} {vs:List α},ns.length=vs.length->ns.Nodup->ns.filterMap (λn=>((ns.zip vs).lookup n).map (n,·))=ns.zip vs
 | [],[],_,_=>rfl
 | m::ns,v::vs,e,h=>by
  have h:=aa8.mp h
  rw [List.filterMap_cons,show ((List.zip (m::ns) (v::vs)).lookup m)=some v by rw [List.zip_cons_cons,List.lookup_cons,beq_self_eq_true]]
  refine congrArg _ (Eq.trans ?_ (rt (Nat.succ.inj e) h.2))
  have aux:∀(l:List Str),(∀n∈l,n≠m)->l.filterMap (λn=>((List.zip (m::ns) (v::vs)).lookup n).map (n,·))=l.filterMap (λn=>((ns.zip vs).lookup n).map (n,·)):=λl=>by
   induction l with
   | nil=>exact λzz=>rfl
   | cons n l ih=>
    intro hn
    rw [List.filterMap_cons,List.filterMap_cons,List.zip_cons_cons,List.lookup_cons,beq_eq_false_iff_ne.mpr (hn n (.head _)),<-List.zip_cons_cons,ih λx hx=>hn x (.tail _ hx)]
  exact aux ns λn hn e=>h.1 (e▸hn)
section
variable {M:Model} {A:Around} {E:Value->Shared->Prop} {s:Shared}
theorem pB {α β:Type} {l:List α} {b:β} {f:α->β->Sem (ForInStep β)} {Q:β->Shared->Prop} (hl:l=[]) (h:Q b s):wpAny M A (forIn l b f) Q E s:=by subst hl;exact wpAny_pure h
end
theorem TP (l:List Str) (n:Nat):l.zip (([]:List Value).drop n)=[]:=by rw [List.drop_nil,List.zip_nil_right]
theorem gO {s:Shared} {fd:FuncData} {names:List Str} {vals:List Value} (h1:fd.params.posonlyargs=[]) (h2:fd.params.args.map (·.arg)=names) (h3:fd.params.vararg=none) (h4:fd.params.kwonlyargs=[]) (h5:fd.params.kwarg=none)
  (hd:fd.defaults= .none) (hl:names.length=vals.length) (nd:names.Nodup):BindsTo s fd ⟨vals,[]⟩ (names.zip vals):=by
 obtain ⟨_,_,⟨_,as,_,_,_⟩,_,_,_,_,_,_⟩:=fd
 dsimp only at h1 h2 h3 h4 h5 hd
 subst h1 h2 h3 h4 h5 hd
 intro M A E Q hq
 refine wpAny_bind (pB rfl ?_)
 refine wpAny_bind (wpAny_pure ?_)
 refine mz (λh=>aaP.mpr (aaS hl.symm) (of_decide_eq_true (aaV.mp h).1)) ?_
 have hf:∀n:Nat,((as.map (·.arg)).take n).filter (λn=>(((as.map (·.arg)).zip vals).lookup n).isNone)=[]:=λn=>List.filter_eq_nil_iff.mpr λx hx=>by
  rw [<-Option.not_isSome,og hl (List.mem_of_mem_take hx)];decide
 refine mz (λh=>?_) ?_
 .replace h:(!(List.isEmpty _))=true:=h
  erw [hf] at h
  exact absurd h (by decide)
 refine wpAny_bind (pB (TP _ _) ?_)
 refine wpAny_bind (pB rfl ?_)
 refine mz (λh=>aaE h) ?_
 exact wpAny_pure (Eq.mpr (congrArg (λl=>Q l s) ((congrArg (List.filterMap _) (aaY _)).trans (rt hl nd))) hq)
theorem Oa {α β:Type} {f:α->β} {l:List α} {a b c:β} (h:l.map f=[a,b,c]):∃x y z,l=[x,y,z]/\f x=a/\f y=b/\f z=c:=by
 obtain ⟨x,l,rfl,h1,h⟩:=List.map_eq_cons_iff.mp h
 obtain ⟨y,l,rfl,h2,h⟩:=List.map_eq_cons_iff.mp h
 obtain ⟨z,l,rfl,h3,h⟩:=List.map_eq_cons_iff.mp h
 exact (cZ x y z ⟨congrArg (x::y::z::·) (List.map_eq_nil_iff.mp h),h1,h2,h3⟩)
theorem ym {s:Shared} {fd:FuncData} {v:Value} {T:Addr} {o:Obj} {items:Array Value} {n:Nat} (h1:fd.params.posonlyargs=[]) (h2:fd.params.args.map (·.arg)=[("self":Str),"table","trailer"]) (h3:fd.params.vararg=none) (h4:fd.params.kwonlyargs=[]) (h5:fd.params.kwarg=none)
  (hd:fd.defaults= .ref T) (ho:s.heap.get? T=some o) (hs:o.data= .seq items n) (hi:items.toList=[.none,.none]):BindsTo s fd ⟨[v],[]⟩ [("self",v),("table",.none),("trailer",.none)]:=by
 obtain ⟨_,_,⟨_,as,_,_,_⟩,_,_,_,_,_,_⟩:=fd
 dsimp only at h1 h2 h3 h4 h5 hd
 obtain ⟨items⟩:=items
 obtain rfl:=show items=_ from hi
 obtain ⟨⟨x,_⟩,⟨y,_⟩,⟨z,_⟩,rfl,e1,e2,e3⟩:=Oa h2
 dsimp only at e1 e2 e3
 clear h2;subst h1 h3 h4 h5 hd e1 e2 e3
 intro M A E Q hq
 refine wpAny_bind (pB rfl ?_)
 refine wpAny_bind (wpAny_seqItems ho hs ?_)
 exact be (t':=(pure [(("self":Str),v),(("table":Str),.none),(("trailer":Str),.none)]:Sem (List (Str × Value)))) (by kernel_rfl) (wpAny_pure hq)
section
variable {M:Mo} {k:Nat} {A:Around} {p p':Pt} {sc aZ:Scope} {env:Env} {loc:Loc} {Q:KV} {T:Value->Shared->Prop}
theorem yf {kf:Str->Option NameKind} (ps:List String):∀{vs:List Value} {as:List AV} (l:L2 (VR p) vs as) {loc loc':Loc} {m cm:Str->Option Value},d8 ps as loc=some loc'->(∀q∈ps,kf (Str.ofString q)=some .local\/kf (Str.ofString q)=some .cell)->
  (∀x,loc x≠ .unset->kf (Str.ofString x)=some .local->∃v,m (Str.ofString x)=some v/\VR p v (loc x))->(∀x,loc x≠ .unset->kf (Str.ofString x)=some .cell->∃v,cm (Str.ofString x)=some v/\VR p v (loc x))->
  (∀x,loc' x≠ .unset->kf (Str.ofString x)=some .local->∃v,bindL kf ((ps.map Str.ofString).zip vs) m (Str.ofString x)=some v/\VR p v (loc' x))/\
  (∀x,loc' x≠ .unset->kf (Str.ofString x)=some .cell->∃v,bindC kf ((ps.map Str.ofString).zip vs) cm (Str.ofString x)=some v/\VR p v (loc' x)):=by
 induction ps with
 | nil=>
  intro vs as l loc loc' m cm hu hk h1 h2
  cases l with
  | nil=>obtain rfl:=aay hu;exact ⟨h1,h2⟩
  | cons r rs=>exact (nn hu).elim
 | cons q ps ih=>
  intro vs as l loc loc' m cm hu hk h1 h2
  cases l with
  | nil=>exact (nn hu).elim
  | @cons v a vs as r rs=>
  have put:∀{K:Option NameKind} {m:Str->Option Value},(∀x,loc x≠ .unset->kf (Str.ofString x)=K->∃v,m (Str.ofString x)=some v/\VR p v (loc x))->∀x,loc.upd q a x≠ .unset->kf (Str.ofString x)=K->∃u,(if Str.ofString x=Str.ofString q then some v else m (Str.ofString x))=some u/\VR p u (loc.upd q a x):=λhm x hx hl=>by
   by_cases z:x=q
   .subst z;exact ⟨v,if_pos rfl,by rw [pL];exact r⟩
   .rw [gK z] at hx ⊢
    exact (if_neg ((λh e=>h (cE e)) z))▸hm x hx hl
  have keep:∀{K:Option NameKind} {m:Str->Option Value},kf (Str.ofString q)≠K->(∀x,loc x≠ .unset->kf (Str.ofString x)=K->∃v,m (Str.ofString x)=some v/\VR p v (loc x))->∀x,loc.upd q a x≠ .unset->kf (Str.ofString x)=K->∃u,m (Str.ofString x)=some u/\VR p u (loc.upd q a x):=λnk hm x hx hl=>by
   rw [gK (show x≠q from λz=>nk (z▸hl))] at hx ⊢
   exact hm x hx hl
  rw [aa4,List.zip_cons_cons]
  unfold bindL bindC
  by_cases e:kf (Str.ofString q)=some .local
  .rw [if_pos e,if_pos e]
   exact ih rs hu (λq hq=>hk q (List.mem_cons_of_mem _ hq)) (put h1) (keep (e▸λh=>absurd h (by decide)) h2)
  .rw [if_neg e,if_neg e]
   exact ih rs hu (λq hq=>hk q (List.mem_cons_of_mem _ hq)) (keep e h1) (put h2)
structure Iq (K:Frag) (key:String) (ps:List String) (a:Addr) (fd:FuncData) (body:List Stmt):Prop where
 at_:∃o,K.lookup a=some o/\o.data= .func fd
 Jr:fd.body= .stmts body
 gl:fd.globals=mainGlobals
 ui:fd.closure=[]
 bi:fd.builtins=builtinsNs
 kind:fd.scope.kind= .function
 gen:fd.scope.isGenerator=false
 co:fd.scope.isCoroutine=false
 code:codeIn K fd.code fd.qualname=true
 p1:fd.params.posonlyargs=[]
 p2:fd.params.args.map (·.arg)=ps.map Str.ofString
 p3:fd.params.vararg=none
 p4:fd.params.kwonlyargs=[]
 p5:fd.params.kwarg=none
 nd:(ps.map Str.ofString).Nodup
 pk:∀p∈ps,AE (fd.scope.names.lookup (Str.ofString p))=true
 nf:∀x∈fd.scope.names,x.2≠ .free
 LX:oB K key fd.defaults=true
theorem bl {a b:Bool} (h:(a&&b)=true):a=true:=(ba h).1
theorem br {a b:Bool} (h:(a&&b)=true):b=true:=(ba h).2
theorem mq {x:FuncBody} {b:List Stmt} (h:yA x=some b):x= .stmts b:=by
 cases x with
 | stmts l=>exact congrArg _ (aay h)
 | _=>exact (nn h).elim
theorem vg {x:Data} {b:FuncData} (h:WK x=some b):x= .func b:=by
 cases x with
 | func l=>exact congrArg _ (aay h)
 | _=>exact (nn h).elim
theorem y6 {K:Frag} {key:String} {ps:List String} {a:Addr} {fd:FuncData} {body:List Stmt} (hq:sQ K key=some (fd,body)) (h:CZ K key ps fd=true) (ha:fa K key=some a):Iq K key ps a fd body:=by
 refine aw (bb hq) λa' Pd Y7=>?_
 obtain rfl:=aay (ha.symm.trans Pd)
 refine aw (bb Y7) λUh hf VP=>?_
 refine aw (bm VP) λb hb e=>?_
 clear VP;cases e
 refine aw (bb hf) λo ho hd=>?_
 unfold CZ at h
 exact ⟨⟨o,ho,vg hd⟩,mq hb,beq_iff_eq.mp (bl (bl (bl (bl (bl (bl (bl (bl (bl (bl (bl (bl (bl (bl (bl h))))))))))))))),List.isEmpty_iff.mp (br (bl (bl (bl (bl (bl (bl (bl (bl (bl (bl (bl (bl (bl (bl h))))))))))))))),beq_iff_eq.mp (br (bl (bl (bl (bl (bl (bl (bl (bl (bl (bl (bl (bl (bl h)))))))))))))),beq_iff_eq.mp (br (bl (bl (bl (bl (bl (bl (bl (bl (bl (bl (bl (bl h))))))))))))),Bool.not_eq_true' _▸(br (bl (bl (bl (bl (bl (bl (bl (bl (bl (bl (bl h)))))))))))),Bool.not_eq_true' _▸(br (bl (bl (bl (bl (bl (bl (bl (bl (bl (bl h))))))))))),br (bl (bl (bl (bl (bl (bl (bl (bl (bl h))))))))),List.isEmpty_iff.mp (br (bl (bl (bl (bl (bl (bl (bl (bl h))))))))),beq_iff_eq.mp (br (bl (bl (bl (bl (bl (bl (bl h)))))))),Option.isNone_iff_eq_none.mp (br (bl (bl (bl (bl (bl (bl h))))))),List.isEmpty_iff.mp (br (bl (bl (bl (bl (bl h)))))),Option.isNone_iff_eq_none.mp (br (bl (bl (bl (bl h))))),of_decide_eq_true (br (bl (bl (bl h)))),aaX.mp (br (bl (bl h))),λx hx=>bne_iff_ne.mp (aaX.mp (br (bl h)) x hx),br h⟩
theorem Ad (W:Wd M) {key:String} {ps:List String} {ir:SL} (hm:(key,ps,ir)∈fq) {a:Addr} (ha:fa M.K key=some a):∃fd body,Iq M.K key ps a fd body/\sQ M.K key=some (fd,body):=
 (oa (aaX.mp W.ok.fns _ hm)).elim λq h=>(bH q.1 q.2 ⟨y6 h.1 h.2 ha,h.1⟩)
theorem nM {o:Option NameKind} (h:AE o=true):o=some .local\/o=some .cell:=by
 cases o with
 | none=>exact absurd h aaE
 | some k=>cases k<;>first | exact .inl rfl | exact .inr rfl | exact (aaE h).elim
theorem iT (W:Wd M) {key:String} {ps:List String} {a:Addr} {fd:FuncData} {body:List Stmt} (f:Iq M.K key ps a fd body) {vs vs':List Value} {as:List AV} (cx:Hm (k+1) A) (R:Rep M p) (r:L2 (VR p) vs' as) (hu:d8 ps as Loc.new=some loc) (hb:BindsTo p.s fd ⟨vs,[]⟩ ((ps.map Str.ofString).zip vs')) {Rr:Result->Shared->Prop}
  (h:∀env h1 tk,env.frame=some env.locals->p.h.objs.size<=env.locals->(∀y,fO fd.scope env y->p.h.objs.size<=y)->dJ p.h h1->nv M k (A.deeper env) (p.at h1 tk) fd.scope env loc->After M c6 p (p.at h1 tk)->codeAny M.m A (.func body env) Rr (p.at h1 tk).s):
  codeAny M.m A (.call (.ref a) ⟨vs,[]⟩) Rr p.s:=by
 refine aw f.at_ λo ho hd=>?_
 have X:=W.X.keeps R.base
 have Pz:∀x∈(ps.map Str.ofString).zip vs',fd.scope.names.lookup x.1=some .local\/(fd.scope.names.lookup x.1=some .cell/\((cellsFrom (p.h.objs.size+1) fd.scope.names []).lookup x.1).isSome=true):=λx hx=>by
  refine aw (aaG.mp (List.of_mem_zip (show (x.1,x.2)∈_ from hx)).1) λq hq e=>?_
  exact (e)▸(nM (f.pk q hq)).imp id λq=>⟨q,cellsFrom_some _ _ _ (.inl q)⟩
 refine codeAny_call_function (by have:=cx.depth;unfold recursionLimit;exact aaz (aaw (aaM _ _) this) (by decide)) (X _ _ ho) hd f.co f.gen f.Jr (codeRec_of X f.code) (hb _ _ _ _ ?_)
 rw [f.ui]
 refine wpAny_newFunctionEnv_cells f.kind Pz λenv he s1 x=>?_
 refine bF W.top λzz zz zz zz top=>?_
 refine ⟨(top.nolimit.keeps R.base).keeps x.toInCall.keep,?_⟩
 have eL:env.locals=p.h.objs.size:=by rw [he];rfl
 have eC:env.cells=cellsFrom (p.h.objs.size+1) fd.scope.names []:=by rw [he];rfl
 have eK:∀y,env.kindOf y=fd.scope.names.lookup y:=λy=>by rw [he];rfl
 have lt:=x.toInCall.ns.lt
 have gr:dJ p.h s1.heap:=⟨x.toInCall.keep,by rw [eL] at lt;exact aaI lt⟩
 refine P1 x.toInCall.same λh1 tk e0=>?_;subst e0
 have a1:After M c6 p (p.at h1 tk):= .grow R gr
 obtain ⟨b1,b2⟩:=yf (p:=p.at h1 tk) (kf:=env.kindOf) ps (a1.o4 r) (m:=λzz=>none) (cm:=λzz=>none) hu (λq hq=>by rw [eK];exact nM (f.pk q hq)) (λy hy=>absurd rfl hy) (λy hy=>absurd rfl hy)
 have yE:∀{y},env.kindOf y≠some .free:=λe=>by
  rw [eK] at e
  exact f.nf _ (bx e) rfl
 have above:∀y c,env.cells.lookup y=some c->p.h.objs.size < c:=λy c hc=>by
  have:=x.above y c (bx hc)
  rwa [eL] at this
 have cellAt:∀y,env.kindOf y=some .cell->∃c,env.cells.lookup y=some c:=λy hl=>aa7.mp (by rw [eC];exact cellsFrom_some _ _ _ (.inl (by rw [<-eK];exact hl)))
 have eo:aI M (p.at h1 tk) fd.scope env loc:=by
  refine ⟨by rw [he];exact f.kind,by rw [he];exact f.gl,by rw [he];exact f.bi,λy e=>by rw [eK,e],λy e=>by rw [eK,e],λy e=>absurd (by rw [eK,e]) yE,λy e=>by rw [eK,e],⟨_,x.toInCall.ns,λy hy zz hl=>b1 y hy hl⟩,⟨by rw [eL];exact R.new (aaF _),by rw [eL];exact R.sz⟩,λy c hc=>?_,λy z c hy hz=>name_of_addr x.apart (bx hy) (bx hz),λy hy hl=>?_,λy hl=>cellAt y (hl.elim id λe=>absurd e yE)⟩
  .have q:=above y c hc
   exact ⟨⟨_,x.cell y c hc⟩,R.new (aaI q),aaw R.sz (aaI q)⟩
  .have hl:env.kindOf (Str.ofString y)=some .cell:=hl.elim id λe=>absurd e yE
   refine aw (b2 y hy hl) λv e rv=>?_
   obtain ⟨c,hc⟩:=cellAt _ hl
   have:=x.cell _ c hc
   rw [e] at this
   exact (bH c v ⟨hc,this,rv⟩)
 have YI:Cx k (A.deeper env):=by
  refine ⟨cx.hd,cx.guards,?_,?_⟩
  .have:=cx.depth
   show A.depth+1+_<=_
   exact zF this (by simp+arith)
  .have:=cx.units
   exact zF this (by simp+arith)
 exact h env h1 tk (by rw [he];rfl) (aaS eL.symm) (λy hy=>hy.elim (λe=>e▸aaS eL.symm) λt0=>aw t0 λz zz e=>aaI (above z y e)) gr ⟨YI,eo,a1.rep⟩ a1
theorem zY (W:Wd M) {key:String} {ps:List String} {ir:SL} {a:Addr} {fd:FuncData} {body:List Stmt} (f:Iq M.K key ps a fd body) (hs:dz 99 fd.scope body=some ir) {vs vs':List Value} {as:List AV} (cx:Hm (k+1) A) (R:Rep M p) (r:L2 (VR p) vs' as) (hu:d8 ps as Loc.new=some loc)
  (hb:BindsTo p.s fd ⟨vs,[]⟩ ((ps.map Str.ofString).zip vs')) (h:ir (Γc M k) loc p.H (eH Q)) (hT:AA M p Q T):codeAny M.m A (.call (.ref a) ⟨vs,[]⟩) (Eo T) p.s:=
 iT W f cx R r hu hb λenv h1 tk zz hL hB g z a1=>codeAny_func (tI (iQ W 99 hs (p:=p.at h1 tk) z h _ λp2 f fl l q rf eo a2=>by
  have a3:After M c6 p p2:=After.drop (a1.no.trans a2) λy hy=>.inr (hB y hy)
  cases fl with
  | next=>obtain rfl:=show f= .next from rf;exact hT p2 _ .none q rfl a3
  | brk=>exact q.elim
  | cont=>exact q.elim
  | ret av=>refine bU rf λv e0 rv=>?_;subst e0;exact hT p2 _ av q rv a3))
theorem E5 (W:Wd M) {key:String} {ps:List String} {ir:SL} (hm:(key,ps,ir)∈fq) {fd:FuncData} {body:List Stmt} (hk:sQ M.K key=some (fd,body)):dz 99 fd.scope body=some ir:=by
 refine uh (List.mem_iff_getElem?.mp hm) λi hi=>?_
 have h:(_:List (Option SL))[i]? =(_:List (Option SL))[i]? :=congrArg (·[i]?) W.ok.Jr
 rw [abc,abc,hi] at h
 have h:=aay h
 dsimp only at h
 rw [hk] at h
 exact h
theorem dA {v:Value} (h:DD v=true):v= .none:=by cases v<;>first | rfl | exact (aaE h).elim
theorem En (W:Wd M) {key:String} {ps:List String} {ir:SL} (hm:(key,ps,ir)∈fq) (uP:key≠"Lookup.__init__") {as:List AV} {H:HP} (hu:d8 ps as Loc.new=some loc) (h:ir (Γc M k) loc H (eH Q)):pO M key (k+1) as H Q:=λa ha A WM s vs cx R r T hT=>by
 refine c4 (Ad W hm ha) λfd body f hk=>?_
 have hd:=f.LX
 unfold oB at hd
 replace hd:=(beq_eq_false_iff_ne.mpr uP)▸hd
 exact zY W f (E5 W hm hk) cx R r hu (gO f.p1 f.p2 f.p3 f.p4 f.p5 (dA hd) (by rw [aaB,jx hu,r.len]) f.nd) h hT
theorem Bl (W:Wd M) {ir:SL} (hm:("Lookup.__init__",["self","table","trailer"],ir)∈fq) {v:AV} {H:HP} (h:ir (Γc M k) (((Loc.new.upd "self" v).upd "table" .none).upd "trailer" .none) H (eH Q)):pO M "Lookup.__init__" (k+1) [v] H Q:=λa ha A WM s vs cx R r T hT=>by
 refine c4 (Ad W hm ha) λfd body f hk=>?_
 have hd:=f.LX
 unfold oB at hd
 rw [beq_self_eq_true] at hd
 refine aw (oa hd) λl hl hd=>?_
 have hd:=ba hd
 cases e:fd.defaults with
 | ref t=>
  replace hl:=(e)▸hl
  refine aw (bb hl) λo ho hl=>?_
  refine JO (kM hl) λitems n hs e0=>?_;subst e0
  refine cf r.aX λx l e1 rx hl=>?_;subst e1
  obtain rfl:=hl.df
  have hi:items.toList=[.none,.none]:=by
   have h2:=Nat.eq_of_beq_eq_true hd.2
   have h1:=aaX.mp hd.1
   revert h2 h1
   cases items.toList with
   | nil=>exact λh=>absurd h (by decide)
   | cons a r=>cases r with
    | nil=>exact λh=>nomatch h
    | cons b r=>cases r with
     | nil=>exact λzz h=>by rw [dA (h a (.head _)),dA (h b (.tail _ (.head _)))]
     | cons=>exact λh=>nomatch h
  exact zY W f (E5 W hm hk) (vs':=[x,.none,.none]) (as:=[v,.none,.none]) cx R (.cons rx (.cons rfl (.cons rfl .nil))) rfl (ym f.p1 f.p2 f.p3 f.p4 f.p5 e ((W.X.keeps R.base) _ _ ho) hs hi) h hT
 | _=>replace hl:=(e)▸hl;exact (nn hl).elim
theorem Bx (W:Wd M) {as:List AV} {H:HP} (h:pO M "told" k as H Q):pO M "told_objects" k as H Q:=λa ha=>h a ((W.ok.told.symm.trans ha:b7 M.K "told"=some a))
theorem yZ (W:Wd M) {as:List AV} {H:HP}:pO M "repr" k as H Q:=λa ha=>nomatch (wq W (b:="repr") (by decide)).symm.trans (cS (x:="repr") ha)
theorem ZX (W:Wd M):aQ (Γc M) where
 fn hm hk hu h:=⟨En W hm hk hu h,λe=>absurd e ((by decide+kernel:∀x∈fq,x.1≠"repr") _ hm)⟩
 init h:=⟨Bl W (aaO (i:=10) rfl) h,λe=>absurd e (by decide)⟩
 told h:=⟨Bx W h.1,λe=>absurd e (by decide)⟩
 rA h:=⟨yZ W,λzz=>.inl ⟨rfl,h⟩⟩
 rB h:=⟨yZ W,λzz=>.inr ⟨rfl,h⟩⟩
end
end
section
open PySem PySem.W PySem.Spec PySem.Calls PyProof.Rows PySem.SeqAt PySem.Builtin PySem.Builtin.ObjectAttr
noncomputable def tO (P:Addr):List Value:=[.ref P,.type "Exception",.type "BaseException",.type "object"]
noncomputable abbrev FK (c t:Value):Obj:={cls:=c,data:= .fields #[t,.none,.none,.none,.bool false,.none]}
section
variable {Mm:Mo} {M:Model} {A:Around} {E:Value->Shared->Prop} {R:Result->Shared->Prop} {h:Heap} {g:Array GenState} {d:Drawn} {t:Nat} {os:OsState}
structure R2 where
 (nm q:Str) (N P:Addr) (bs:List Value) (sn:List Str) (sub:List Value) (ab:Bool) (col:Option Bool) (dd:Option Addr) (k0 k1 k2 k3 k5:Option Value)
noncomputable abbrev HY (x:R2) (C:Addr):Obj:=excClassObj x.nm x.q C x.N x.bs (tO x.P) true x.sn x.sub x.ab x.col x.dd x.k0 x.k1 x.k2 x.k3 x.k5 "Exception.__new__"
variable {dT:R2} {C P:Addr}
theorem EH:(Value.ref C::tO P).contains (.type "Exception")=true:=by simp [tO]
theorem Oh:(Value.ref C::tO P).contains (.type "BaseException")=true:=by simp [tO]
theorem Nx:(Value.ref C::tO P).contains (.type "object")=true:=by simp [tO]
theorem O1:(Value.ref C::tO P).contains (.ref C)=true:=by simp
theorem Tp:(Value.ref C::tO P).contains (.type "AttributeError")=false:=by simp [tO]
theorem TK:(Value.ref C::tO P).contains (.type "NameError")=false:=by simp [tO]
theorem tK {rest:List Value} {Q:Unit->Shared->Prop} (hC:h.get? C=some (HY dT C)) (hq:Q () ⟨h,g,d,t,os⟩):
  wpAny M A (checkBuiltinCall "Exception.__new__" ⟨.ref C::rest,[]⟩) Q E ⟨h,g,d,t,os⟩:=by
 have F:=PySem.F.excBase_Exception
 have VQ:=F.noStar
 delta checkBuiltinCall
 rw [F.newKind,F.newSplit,F.newRow]
 repeat (first | refine wpAny_loadPart_at hC ?_ | (refine wpAny_isSubtype_exc hC ?_;rw [(EH (C:=C) (P:=dT.P))]) | refine wpAny_staticBase_exc hC ?_ | refine wpAny_madeBy_exc hC ?_ | refine wpAny_ite_false (by decide) ?_ | wp_step)
 exact hq
theorem Kx {rest:List Value} (hC:h.get? C=some (HY dT C)) (hz:rest.length<=sizeLine)
  (hq:R (.ok (.ret (.ref (h.objs.size+1)))) ⟨(h.push {cls:= .type "tuple",data:= .seq rest.toArray}).push (FK (.ref C) (.ref h.objs.size)),g,d,t,os⟩):
  codeAny Mm.m A (.builtin "Exception.__new__" ⟨.ref C::rest,[]⟩) R ⟨h,g,d,t,os⟩:=by
 have F:=PySem.F.excBase_Exception
 have V4:=F.ends
 refine codeAny_builtinAt F.entry ?_
 refine PySem.wpAt_bind ?_
 refine PySem.wpAt_bind (PySem.wpAt_stack λp below=>PySem.wpAt_of_wpAny ?_)
 wp_walk
 refine PySem.wpAt_of_wpAny ?_
 rw [F.owner]
 repeat (first | with_reducible refine wpAny_madeHere_exc F.canon hC ?_ | with_reducible refine wpAny_loadPart_at hC ?_ | (with_reducible refine wpAny_isSubtype_exc hC ?_;first | rw [(EH (C:=C) (P:=dT.P))] | rw [(Tp (C:=C) (P:=dT.P))] | rw [(TK (C:=C) (P:=dT.P))]) | wp_step)
 show R _ _
 rw [Heap.size_push]
 exact hq
theorem sg {rest:List Value} {fI:Addr} {K:Frag} {Q:Fin->Shared->Prop} (hC:h.get? C=some (HY dT C)) (X:K.In h)
  (hi:findIn K (.ref C) "__init__"=some (some (.ref fI))) (hf:typeIn K (.ref fI)=some (.type "function")) (hz:rest.length<=sizeLine)
  (hq:wpAny Mm.m A (call (.ref fI) (.ref (h.objs.size+1)::rest)) (λr s'=>r= .none/\Q (.done (.ret (.ref (h.objs.size+1)))) s') E
   ⟨(h.push {cls:= .type "tuple",data:= .seq rest.toArray}).push (FK (.ref C) (.ref h.objs.size)),g,d,t,os⟩):
  wpAny Mm.m A (Builtin.«type.__call__» ⟨.ref C::rest,[]⟩) Q E ⟨h,g,d,t,os⟩:=by
 repeat (first | with_reducible refine wpAny_loadPart_at hC ?_ | with_reducible refine wpAny_madeBy_exc hC ?_ | wp_step)
 refine codeAny_call_builtin_code (Code.quiet_builtin _ PySem.F.excBase_Exception.quiet) (tK hC ?_)
 refine Kx hC hz ?_
 have k:∀b o,h.get? b=some o->((h.push {cls:= .type "tuple",data:= .seq rest.toArray}).push (FK (.ref C) (.ref h.objs.size))).get? b=some o:=λb o e=>Heap.get?_push_of_some _ (Heap.get?_push_of_some _ e)
 have X₁:=X.keeps k
 have KI:((h.push {cls:= .type "tuple",data:= .seq rest.toArray}).push (FK (.ref C) (.ref h.objs.size))).get? (h.objs.size+1)=some (FK (.ref C) (.ref h.objs.size)):=by heap_get
 repeat (first | (with_reducible refine wpAny_loadPart_at KI ?_;dsimp only [FK]) | (with_reducible refine wpAny_isSubtype_exc (k _ _ hC) ?_;rw [(O1 (C:=C) (P:=dT.P))]) | wp_step)
 show wpAny _ _ (typeLookup (.ref C) _) _ _ _
 refine (looks_findIn X₁ hi).here ?_
 refine wpAny_holding (wpAny_bind ((bind_fn X₁ _ hf).here ?_))
 refine wpAny_bind (wpAny_mono hq (λr s' hr=>?_) λzz zz x=>x)
 obtain ⟨rfl,hQ⟩:=hr
 wp_walk
 exact hQ
theorem HS {rest:List Value} {fI:Addr} {K:Frag} {Q:Value->Shared->Prop} (hC:h.get? C=some (HY dT C)) (X:K.In h)
  (hi:findIn K (.ref C) "__init__"=some (some (.ref fI))) (hf:typeIn K (.ref fI)=some (.type "function")) (hz:rest.length<=sizeLine)
  (hq:wpAny Mm.m (A.under (.builtin "type.__call__" ⟨.ref C::rest,[]⟩)) (call (.ref fI) (.ref (h.objs.size+1)::rest)) (λr s'=>r= .none/\Q (.ref (h.objs.size+1)) s') E
   ⟨(h.push {cls:= .type "tuple",data:= .seq rest.toArray}).push (FK (.ref C) (.ref h.objs.size)),g,d,t,os⟩):
  wpAny Mm.m A (call (.ref C) rest) Q E ⟨h,g,d,t,os⟩:=by
 have f1:=tc_lookup
 have f2:=tc_bind (.ref C)
 have hT:(⟨h,g,d,t,os⟩:Shared).TypeIs (.ref C) "type":=⟨_,hC,rfl⟩
 refine wpAny_call (codeAny_of_tree ?_)
 show wpAny _ _ (callAny (.ref C) _) _ _ _
 repeat (any_goals (first | assumption | with_reducible refine wpAny_loadPart_at hC ?_ | wp_step))
 refine ⟨rfl,?_⟩
 refine codeAny_call_builtin_at (Code.quiet_builtin _ (by decide+kernel)) entry_typeCall (wpAny_check_type_call_sub hC (sg hC X hi hf hz ?_))
 exact hq
end
structure xF (S:Addr->Prop) (h:Heap) (e C:Addr) (ns:List Str):Prop where
 lo:¬S e
 at_:∃o t',h.get? e=some o/\o.cls= .ref C/\o.data= .fields #[.ref t',.none,.none,.none,.bool false,.none]/\
  (o.dict=none\/∃d mA,o.dict=some d/\d≠e/\¬S d/\h.Ns1 d mA/\Within mA ns)
noncomputable def ce (S:Addr->Prop) (h h':Heap):Prop:=(∀b o,S b->h.get? b=some o->h'.get? b=some o)/\h.objs.size<=h'.objs.size
theorem ce.refl {S:Addr->Prop} {h:Heap}:ce S h h:=⟨λzz zz zz e=>e,aaF _⟩
theorem ce.trans {S:Addr->Prop} {h h' Og:Heap} (a:ce S h h') (b:ce S h' Og):ce S h Og:=⟨λx o l e=>b.1 x o l (a.1 x o l e),aaw a.2 b.2⟩
theorem ce.grow {S:Addr->Prop} {h h':Heap} (g:dJ h h'):ce S h h':=⟨λx o zz e=>g.1 x o e,g.2⟩
theorem iH {a:Addr} {h h':Heap} (hs:Heap.SameBut a h h'):h.objs.size<=h'.objs.size:=aaS hs.1.symm
section
variable {Mm:Mo} {K:Frag} {A:Around} {s:Shared} {S:Addr->Prop} {e C P:Addr} {ns:List Str} {name:Str} {v:Value}
theorem BS (self:Value):refuseLoop self "__setattr__" (.ref C::tO P)=pure ():=by
 unfold tO
 rw [refuseLoop_ref,refuseLoop_ref]
 exact PySem.F.store_Exception.passes self
theorem Fm {cd:ClassData} (X:K.In s.heap) (hc:clsIn K C=some cd) (hm:cd.mro= .ref C::tO P) (hd:cd.hasDict=true)
  (hs:findIn K (.ref C) "__setattr__"=some (some (.builtin "object.__setattr__"))) (hf:findIn K (.ref C) name=some none) (I:xF S s.heap e C ns) (hS:∀b,S b->b < s.heap.objs.size) (hl:ns.length<=8)
  {T:Unit->Shared->Prop} (hT:∀h' tk,xF S h' e C (name::ns)->ce S s.heap h'->T () {s with heap:=h',toks:=tk}):wpAny Mm.m A (setAttr (.ref e) name v) T bL s:=by
 obtain ⟨lo,o,t',ho,m7,um,IO⟩:=I
 obtain ⟨hh,g,d,tk,os⟩:=s
 dsimp only at X ho IO hS
 have ty:Looks Mm.m hh (typeOf (.ref e)) (.ref C):=m7▸(Looks.ld ho).andThen .now
 have cl:=looks_clsIn (M:=Mm.m) X hc
 refine wpAny_bind (wpAny_mkText (wpAny_bind (wpAny_bind (wpAny_bind (ty _ _ _ _ (λzz zz e=>e) (looks_findIn X hs _ _ _ _ (λzz zz e=>e) (wpAny_holding ?_)))))))
 rw [PySem.F.store_object.slot.bind]
 refine wpAny_bind (wpAny_pure (wpAny_bind (wpAny_call ?_)))
 have SF:=PySem.F.store_object
 have sub:Looks Mm.m hh (isInstance (.ref e) (.type "object")) true:=ty.andThen (by
  exact looks_mroIn X (by unfold mroIn;rw [hc,Option.bind_some,hm,if_neg (by simp),Nx]))
 refine codeAny_call_builtin SF.slot.plain SF.entry (@check_slot Mm.m _ _ ⟨hh,g,d,tk+1,os⟩ "object.__setattr__" "object" "__setattr__" (.ref e) [.str name tk,v] [] _ SF.kind SF.split sub (SF.args (.ref e) (.str name tk) v) ?_)
 show wpAny _ _ (Builtin.«object.__setattr__» ⟨[.ref e,.str name tk,v],[]⟩) _ _ _
 refine be (osa_eq ..) ?_;rw [refuse_eq]
 refine wpAny_bind (wpAny_bind (ty.here (wpAny_bind ((show Looks Mm.m hh (mroOf (.ref C)) (.ref C::tO P) from by exact (hm)▸cl.andThen .now).here ?_))))
 refine be (BS ..) ?_
 refine wpAny_pure (wpAny_bind (ty.here (wpAny_bind ((looks_findIn X hf).here (wpAny_bind (wpAny_pure ?_))))))
 refine wpAny_bind (wpAny_pure (wpAny_bind (wpAny_bind (wpAny_loadPart (s:=⟨hh,g,d,tk+1,os⟩) ho ?_))))
 obtain ⟨oc,od,V5,Ol⟩:=o
 dsimp only at m7 um IO
 subst m7 um
 refine wpAny_bind (cl.here ?_)
 rw [hd]
 rcases IO with q | ⟨dx,mA,q,ne,ld,Qq,hw⟩
 .subst q
  refine mz (by decide) ?_;refine mz (by simp [typeHasDict]) ?_
  dsimp only
  have Wa:(hh.push emptyDict).get? e=some ⟨.ref C,none,.fields #[.ref t',.none,.none,.none,.bool false,.none],Ol⟩:=Heap.get?_push_of_some _ ho
  have le:=Heap.lt_size ho
  have Ti:e≠hh.objs.size:=aaJ le
  refine wpAny_bind (wpAny_alloc' (wpAny_bind (wpAny_update' Wa (wpAny_pure ?_))))
  have ND:Heap.SameBut e (hh.push emptyDict) ((hh.push emptyDict).update e λo=>{cls:=o.cls,dict:=some hh.objs.size,data:=o.data,slots:=o.slots}):=Heap.SameBut.update ..
  have XD:((hh.push emptyDict).update e λo=>{cls:=o.cls,dict:=some hh.objs.size,data:=o.data,slots:=o.slots}).get? hh.objs.size=some emptyDict:=(ND.2 _ Ti.symm).trans (Heap.get?_push_at rfl rfl)
  have jR:((hh.push emptyDict).update e λo=>{cls:=o.cls,dict:=some hh.objs.size,data:=o.data,slots:=o.slots}).get? e=some ⟨.ref C,some hh.objs.size,.fields #[.ref t',.none,.none,.none,.bool false,.none],Ol⟩:=Heap.get?_update_self _ Wa rfl
  have AM:Heap.Ns ((hh.push emptyDict).update e λo=>{cls:=o.cls,dict:=some hh.objs.size,data:=o.data,slots:=o.slots}) hh.objs.size (λzz=>none):=(cZ _ (#[]) _ ⟨XD,rfl,λe he=>absurd he (by simp),λzz=>rfl⟩)
  have sz:hh.objs.size<=((hh.push emptyDict).update e λo=>{cls:=o.cls,dict:=some hh.objs.size,data:=o.data,slots:=o.slots}).objs.size:=by
   have:=iH ND;rw [Heap.size_push] at this;exact Nat.le_of_succ_le this
  delta storeInDict newKeyGuard
  refine wpAny_bind (wpAny_pure (wpAny_bind (wpAny_nsSet1 (Heap.Ns1.of_empty AM) λh' Gh hs=>?_)))
  refine iP (Gh.count (Within.cons name v Within.nil)) λoD XP Xz U2 Sz R5=>?_
  refine wpAny_bind (wpAny_lookBehind U2 (by rw [Sz];exact pastItsLine_dict (aaw R5 (by rw [aa2,List.length_nil,sizeLine_eq];exact by decide))) (wpAny_pure (wpAny_pure (wpAny_pure (hT _ _ ⟨lo,_,t',(hs.2 e Ti).trans jR,rfl,rfl,.inr (bH _ _ ⟨rfl,Ti.symm,λq=>Nat.lt_irrefl _ (hS _ q),Gh,λy hy=>aaH.mpr (.inl (aaK.mp (Within.cons name v Within.nil y hy)))⟩)⟩ ⟨λb ob lb hb=>?_,?_⟩)))))
  .exact (hs.2 b (aaJ (Heap.lt_size hb))).trans ((ND.2 b λq=>lo (q▸lb)).trans (Heap.get?_push_of_some _ hb))
  .exact aaw sz (iH hs)
 .subst q
  refine wpAny_pure ?_
  delta storeInDict newKeyGuard
  refine wpAny_bind (wpAny_pure (wpAny_bind (wpAny_nsSet1 Qq λh' Gh hs=>?_)))
  refine iP (Gh.count (Within.cons name v hw)) λoD XP Xz U2 Sz R5=>?_
  refine wpAny_bind (wpAny_lookBehind U2 (by rw [Sz];exact pastItsLine_dict (aaw R5 (by rw [aa2,sizeLine_eq];exact aaw (aa1 hl) (by decide)))) (wpAny_pure (wpAny_pure (wpAny_pure (hT _ _ ⟨lo,_,t',(hs.2 e ne.symm).trans ho,rfl,rfl,.inr (bH _ _ ⟨rfl,ne,ld,Gh,Within.cons name v hw⟩)⟩ ⟨λb ob lb hb=>?_,iH hs⟩)))))
  exact (hs.2 b λq=>ld (q▸lb)).trans hb
end
section
variable {Mm:Mo} {M:Model} {K:Frag} {A:Around} {E:Value->Shared->Prop} {s:Shared} {S:Addr->Prop} {e C:Addr} {ns:List Str} {name:Str} {v:Value}
variable {h:Heap} {g:Array GenState} {d:Drawn} {t:Nat} {os:OsState}
variable {dT:R2}
theorem qu {oe:Obj} {rest:List Value} {Q:Unit->Shared->Prop} (hC:h.get? C=some (HY dT C)) (he:h.get? e=some oe) (To:oe.cls= .ref C) (hq:Q () ⟨h,g,d,t,os⟩):
  wpAny M A (checkBuiltinCall "Exception.__init__" ⟨.ref e::rest,[]⟩) Q E ⟨h,g,d,t,os⟩:=by
 have F:=PySem.F.excBase_Exception
 have SJ:=F.noStar
 delta checkBuiltinCall
 rw [F.initKind,F.initSplit,F.initRow]
 repeat (first | (with_reducible refine wpAny_loadPart_at he ?_;rw [To]) | with_reducible refine wpAny_loadPart_at hC ?_ | (with_reducible refine wpAny_isSubtype_exc hC ?_;rw [(EH (C:=C) (P:=dT.P))]) | wp_step)
 refine wpAny_onRaise ?_
 rw [show ∀(a b:String) (n:Nat),Bind.check ⟨.positional,"*","Exception",.self,[⟨"args",.varPos,false⟩]⟩ a b n (List.map (λx=>x.fst) ({pos:=Value.ref e::rest}:Args).kw)=pure () from
  λa b n=>check_star_args _ _ _ _ _ _]
 exact wpAny_pure hq
theorem Fd {T:Shared->Prop} (hC:s.heap.get? C=some (HY dT C)) (I:xF S s.heap e C ns) (hT:∀h',xF S h' e C ns->ce S s.heap h'->T {s with heap:=h'}):
  wpAny Mm.m A (call (.builtin "Exception.__init__") [.ref e,v]) (λr s'=>r= .none/\T s') bL s:=by
 obtain ⟨lo,o,t',ho,m7,um,IO⟩:=I
 obtain ⟨hh,g,d,tk,os⟩:=s
 dsimp only at hC ho IO
 have F:=PySem.F.excBase_Exception
 obtain ⟨oc,od,V5,Ol⟩:=o
 dsimp only at m7 um IO
 subst m7 um
 refine wpAny_call (codeAny_call_builtin F.init.plain F.initEntry (qu hC ho rfl ?_))
 delta Builtin.«BaseException.__init__» Builtin.BaseException.bexcPut
 wp_walk
 have le:=Heap.lt_size ho
 have hx:(hh.push {cls:= .type "tuple",data:= .seq #[v]}).get? e=some ⟨.ref C,od,.fields #[.ref t',.none,.none,.none,.bool false,.none],Ol⟩:=Heap.get?_push_of_some _ ho
 have hs:Heap.SameBut e (hh.push {cls:= .type "tuple",data:= .seq #[v]}) ((hh.push {cls:= .type "tuple",data:= .seq #[v]}).update e (Obj.mapFields λx=>x.setIfInBounds 0 (Value.ref hh.objs.size))):=Heap.SameBut.update ..
 refine ⟨rfl,hT _ ⟨lo,_,hh.objs.size,(Heap.get?_update_self (Obj.mapFields λx=>x.setIfInBounds 0 (Value.ref hh.objs.size)) hx rfl),rfl,rfl,?_⟩ ⟨λb ob lb hb=>(hs.2 b λq=>lo (q▸lb)).trans (Heap.get?_push_of_some _ hb),?_⟩⟩
 .rcases IO with z | ⟨dx,mA,z,ne,ld,Qq,hw⟩
  .exact .inl z
  .exact .inr (bH dx mA ⟨z,ne,ld,Heap.Ns1.sameBut (Qq.at λzz e=>Heap.get?_push_of_some _ e) hs ne,hw⟩)
 .have:=iH hs
  rw [Heap.size_push] at this
  exact aaw (aba _) this
theorem AU {T:String} {pl:Sem Bool} {Q:Value × List Value->Shared->Prop} (X:K.In s.heap) (ht:typeOf (.type T)=pure (.type "type")) (hs:Manifest.isStub T=false)
  (e:findCls K (.type T) (.type "type") name=some (.val v)) (hh:handedIn v=true) (h:Q (v,[]) {s with toks:=s.toks+1}):wpAny Mm.m A (getMethod (.type T) name pl) Q E s:=by
 have PQ:opaqueClassAbove (.type T)=pure none:=by unfold opaqueClassAbove;dsimp only;rw [hs];rfl
 have L0:Looks Mm.m s.heap (typeOf (.type T)) (.type "type"):=Looks.of_pure ht
 have hg:findIn K (.type "type") "__getattribute__"=some (some (.builtin "type.__getattribute__")):=type_tga
 delta getMethod specialOf
 refine wpAny_bind (wpAny_bind (L0.here ((looks_findIn X hg).here ?_)))
 dsimp only
 refine FC canon_tga ?_
 refine wpAny_bind (wpAny_mono (Q:=λv=>Q (v,[])) (E:=E) ?_ (λzz zz z=>wpAny_pure z) λzz zz z=>z)
 exact cls_open X (Looks.of_pure PQ) L0 hg (looks_hook X (r:=none) (by rfl)) (by show subIn K _ _=_;rfl) e
  (wpAny_pure (handed_on hh h))
end
end
section
open PySem PySem.W PySem.Spec PySem.Calls PyProof.Rows PySem.SeqAt PySem.Builtin
noncomputable def j9 (ap p:Pos) (q:Nat->Pos):List Stmt:=
 [.Expr (.Call (.Attribute (.Name ("Exception":Str) (q 1)) ("__init__":Str) ap) [.Name ("self":Str) (q 2),.Name ("what":Str) (q 3)] [] p) (q 4),.Assign [.Attribute (.Name ("self":Str) (q 5)) ("what":Str) (q 6)] (.Name ("what":Str) (q 7)) (q 8),
  .Assign [.Attribute (.Name ("self":Str) (q 9)) ("at":Str) (q 10)] (.Name ("at":Str) (q 11)) (q 12)]
structure Sr (K:Frag) (fd:FuncData):Prop where
 gl:fd.globals=mainGlobals
 ui:fd.closure=[]
 bi:fd.builtins=builtinsNs
 Jr:∃ap p q,fd.body= .stmts (j9 ap p q)/\ap.endLine=p.line
 kind:fd.scope.kind= .function
 gen:fd.scope.isGenerator=false
 co:fd.scope.isCoroutine=false
 code:codeIn K fd.code fd.qualname=true
 p1:fd.params.posonlyargs=[]
 p2:fd.params.args.map (·.arg)=[("self":Str),"what","at"]
 p3:fd.params.vararg=none
 p4:fd.params.kwonlyargs=[]
 p5:fd.params.kwarg=none
 LX:∃t o vs n v,fd.defaults= .ref t/\K.lookup t=some o/\o.data= .seq vs n/\vs.toList=[v]
 n1:fd.scope.names.lookup ("self":Str)=some .local
 n2:fd.scope.names.lookup ("what":Str)=some .local
 n3:fd.scope.names.lookup ("at":Str)=some .local
 n4:fd.scope.names.lookup ("Exception":Str)=some .globalImplicit
structure TF (K:Frag) (C:Addr):Prop where
 hC:b7 K "TreeFault"=some C
 obj:∃dT,K.lookup C=some (HY dT C)
 set:findIn K (.ref C) "__setattr__"=some (some (.builtin "object.__setattr__"))
 R7:findIn K (.ref C) "what"=some none
 at_:findIn K (.ref C) "at"=some none
 keep:keepIn K (.ref C)=true
 M6:findCls K (.type "Exception") (.type "type") "__init__"=some (.val (.builtin "Exception.__init__"))
 exc:nsIn K mainGlobals ("Exception":Str)=some none
 init:∃f fd o,findIn K (.ref C) "__init__"=some (some (.ref f))/\typeIn K (.ref f)=some (.type "function")/\K.lookup f=some o/\o.data= .func fd/\Sr K fd
theorem A3 {s:Shared} {fd:FuncData} {v u d:Value} {T:Addr} {o:Obj} {items:Array Value} {n:Nat} (h1:fd.params.posonlyargs=[]) (h2:fd.params.args.map (·.arg)=[("self":Str),"what","at"]) (h3:fd.params.vararg=none) (h4:fd.params.kwonlyargs=[]) (h5:fd.params.kwarg=none)
  (hd:fd.defaults= .ref T) (ho:s.heap.get? T=some o) (hs:o.data= .seq items n) (hi:items.toList=[d]):BindsTo s fd ⟨[v,u],[]⟩ [("self",v),("what",u),("at",d)]:=by
 obtain ⟨_,_,⟨_,as,_,_,_⟩,_,_,_,_,_,_⟩:=fd
 dsimp only at h1 h2 h3 h4 h5 hd
 obtain ⟨items⟩:=items
 obtain rfl:=show items=_ from hi
 obtain ⟨⟨x,_⟩,⟨y,_⟩,⟨z,_⟩,rfl,e1,e2,e3⟩:=Oa h2
 dsimp only at e1 e2 e3
 clear h2;subst h1 h3 h4 h5 hd e1 e2 e3
 intro M A E Q hq
 refine wpAny_bind (pB rfl ?_)
 refine wpAny_bind (wpAny_seqItems ho hs ?_)
 exact be (t':=(pure [(("self":Str),v),(("what":Str),u),(("at":Str),d)]:Sem (List (Str × Value)))) (by kernel_rfl) (wpAny_pure hq)
theorem LA:typeOf (.type "Exception")=pure (.type "type"):=by first | rfl | kernel_rfl
theorem F6:Manifest.isStub "Exception"=false:=by decide+kernel
theorem uo:handedIn (.builtin "Exception.__init__")=true:=by decide+kernel
section
variable {M:Mo} {A:Around} {s:Shared} {S:Addr->Prop} {e C f:Addr} {fd:FuncData} {o:Obj}
structure M8 (env:Env) (h:Heap) (m:Str->Option Value):Prop where
 fn:env.scope.kind= .function
 gl:env.globals=mainGlobals
 bi:env.builtins=builtinsNs
 ns:h.Ns env.locals m
 ks:env.kindOf ("self":Str)=some .local
 kw:env.kindOf ("what":Str)=some .local
 ka:env.kindOf ("at":Str)=some .local
 ke:env.kindOf ("Exception":Str)=some .globalImplicit
theorem BU (W:Wd M) (tf:TF M.K C) {env:Env} {m:Str->Option Value} {msg dv:Value} (fW:∀x o,M.h0.get? x=some o->s.heap.get? x=some o) (E:M8 env s.heap m) (hL:S env.locals) (Vn:∀b o,M.h0.get? b=some o->S b) (hS:∀b,S b->b < s.heap.objs.size)
  (m1:m ("self":Str)=some (.ref e)) (m2:m ("what":Str)=some msg) (m3:m ("at":Str)=some dv) (I:xF S s.heap e C [])
  {ap p:Pos} {q:Nat->Pos} (Go:ap.endLine=p.line) {T:Flow->Shared->Prop}
  (hT:∀h' tk,xF S h' e C [("at":Str),"what"]->ce S s.heap h'->T .next {s with heap:=h',toks:=tk}):
  wpAny M.m A (execs (j9 ap p q) env) T bL s:=by
 have X:=W.X.keeps fW
 refine bF W.top λzz zz zz zz T0=>?_
 refine uh tf.obj λdT tv=>?_
 have hi:interactive env=false:=by unfold interactive;rw [E.fn];rfl
 unfold j9
 refine be (arm_execs_cons ..) ?_;rw [exec_Expr env _ _ hi (dc rfl)]
 refine wpAny_bind (wpAny_bind (wpAny_standAt ?_))
 rw [pz,gD rfl]
 refine wpAny_bind (wpAny_bind (Name_function_global E.fn E.ke (loadGlobal_builtin (by rw [E.gl];exact T0.g.keeps fW) (mg_none_of W.X T0.g tf.exc) (by rw [E.bi];exact T0.b.keeps fW) ((T0.builtins _ (by decide+kernel)).trans PyProof.Rows.Boot.«Exception») (wpAny_bind (wpAny_standAt ?_))) (by decide+kernel)))
 have pl:∀e∈[Expr.Name ("self":Str) (q 2),.Name ("what":Str) (q 3)],bh e=true:=λa ha=>(aaH.mp ha).elim (λe=>e▸rfl) λha=>aaK.mp ha▸rfl
 refine (congrArg (λz=>wpAny M.m A z _ _ _) (fP pl (Nat.le_of_ble_eq_true rfl) Go)).mpr ?_
 refine wpAny_bind ?_
 refine wpAny_holding ?_
 refine AU (T:="Exception") X LA F6 tf.M6 uo ?_
 have Yh:backTo p (starEach [.Name ("self":Str) (q 2),.Name ("what":Str) (q 3)] env)=[(false,eval (.Name ("self":Str) (q 2)) env),(false,eval (.Name ("what":Str) (q 3)) env)]:=by
  rw [aT rfl,aT rfl];rfl
 rw [Yh]
 refine callWith_builtin rfl ?_
 refine Calls.evalArgs_plain ?_
 refine Calls.spliced_cons ?_
 have E2:∀{h:Heap} {t:Nat} {x:Str} {p:Pos} {v:Value} {T:Value->Shared->Prop},h.Ns env.locals m->env.kindOf x=some .local->m x=some v->(x==("__debug__":Str))=false->T v {s with heap:=h,toks:=t}->wpAny M.m A (eval (.Name x p) env) T bL {s with heap:=h,toks:=t}:=
  λQq hk hm hd h=>wpAny_Name (wpAny_loadName_local E.fn hk Qq hm h) hd
 have d1:(("self":Str)==("__debug__":Str))=false:=by decide+kernel
 have d2:(("what":Str)==("__debug__":Str))=false:=by decide+kernel
 have d3:(("at":Str)==("__debug__":Str))=false:=by decide+kernel
 refine E2 E.ns E.ks m1 d1 ?_
 refine Calls.spliced_cons ?_
 refine E2 E.ns E.kw m2 d2 ?_
 refine Calls.spliced_nil ?_
 refine wpAny_mono (Fd (s:={s with toks:=s.toks+1}) (X _ _ tv) I (T:=λs'=>∃h',s'={s with heap:=h',toks:=s.toks+1}/\xF S h' e C []/\ce S s.heap h') λh' i k=>⟨h',rfl,i,k⟩) (λr s1 z=>?_) λzz zz z=>z
 refine Kr z λe0 h1 e1 I1 K1=>?_;subst e0;subst e1
 refine wpAny_pure ?_
 have R3:∀{h'},ce S s.heap h'->h'.Ns env.locals m:=λk=>xP E.ns λo q=>k.1 _ _ hL q
 have XK:∀{h'},ce S s.heap h'->M.K.In h':=λk=>W.X.keeps λx o e=>k.1 _ _ (Vn x o e) (fW x o e)
 obtain ⟨cd,m7,O5,VH⟩:∃cd,clsIn M.K C=some cd/\cd.mro= .ref C::tO dT.P/\cd.hasDict=true:=⟨{name:=dT.nm,bases:=dT.bs,mro:= .ref C::tO dT.P,ns:=dT.N,qualname:=dT.q,hasDict:=true,slotNames:=dT.sn,subclasses:=dT.sub,abstract:=dT.ab,collection:=dT.col,hasDel:=false},by unfold clsIn;rw [tv],rfl,rfl⟩
 show wpAny _ _ (execs _ env) _ _ _
 refine be (arm_execs_cons ..) ?_
 refine wpAny_bind ?_
 refine plainObj_wpAny_Assign_Attribute ?_ (dc rfl)
 refine E2 (R3 K1) E.kw m2 d2 ?_
 refine E2 (R3 K1) E.ks m1 d1 ?_
 refine Fm (s:={s with heap:=h1,toks:=s.toks+1}) (XK K1) m7 O5 VH tf.set tf.R7 I1 (λb hb=>aax (hS b hb) K1.2) (by decide) λh2 Y1 I2 K2=>?_
 have NU:=K1.trans K2
 show wpAny _ _ (execs _ env) _ _ _
 refine be (arm_execs_cons ..) ?_
 refine wpAny_bind ?_
 refine plainObj_wpAny_Assign_Attribute ?_ (dc rfl)
 refine E2 (R3 NU) E.ka m3 d3 ?_
 refine E2 (R3 NU) E.ks m1 d1 ?_
 refine Fm (s:={s with heap:=h2,toks:=Y1}) (XK NU) m7 O5 VH tf.set tf.at_ I2 (λb hb=>aax (hS b hb) NU.2) (by decide) λh3 JP I3 K3=>?_
 exact wpAny_pure (hT h3 JP I3 (NU.trans K3))
end
section
variable {M:Mo} {A:Around} {s:Shared} {S:Addr->Prop} {e C f:Addr} {fd:FuncData} {o:Obj}
theorem xF.mono {S S':Addr->Prop} {h h':Heap} {ns:List Str} (I:xF S h e C ns) (he:¬S' e) (hd:∀d,¬S d->(∃o,h.get? d=some o)->¬S' d) (k:∀x o,h.get? x=some o->h'.get? x=some o):xF S' h' e C ns:=by
 obtain ⟨lo,o,t',ho,hc,um,IO⟩:=I
 refine ⟨he,o,t',k _ _ ho,hc,um,IO.imp id λt0=>El t0 λd mA z ne ld hn hw=>(bH d mA ⟨z,ne,hd d ld ?_,hn.keeps k,hw⟩)⟩
 refine tR hn λod zz zz XS zz=>?_
 exact ⟨od,XS⟩
theorem Cw (W:Wd M) (tf:TF M.K C) {msg:Value} (Dm:A.depth < recursionLimit) (hf:M.K.lookup f=some o) (hd:o.data= .func fd) (fo:Sr M.K fd)
  (fW:∀x o,M.h0.get? x=some o->s.heap.get? x=some o) (Vn:∀b o,M.h0.get? b=some o->S b) (hS:∀b,S b->b < s.heap.objs.size) (he:e < s.heap.objs.size) (I:xF S s.heap e C [])
  {T:Shared->Prop} (hT:∀h' tk,xF S h' e C [("at":Str),"what"]->ce S s.heap h'->T {s with heap:=h',toks:=tk}):
  wpAny M.m A (call (.ref f) [.ref e,msg]) (λr s'=>r= .none/\T s') bL s:=by
 obtain ⟨ap,p,q,hb,hl⟩:=fo.Jr
 refine yg fo.LX λt ot vs nn dv YZ ht Tj TI=>?_
 have X:=W.X.keeps fW
 refine bF W.top λzz zz zz zz top=>?_
 refine wpAny_call (codeAny_call_function Dm (X _ _ hf) hd fo.co fo.gen hb (codeRec_of X fo.code) ?_)
 refine A3 fo.p1 fo.p2 fo.p3 fo.p4 fo.p5 YZ (X _ _ ht) Tj TI _ _ _ _ ?_
 rw [fo.ui]
 refine wpAny_newFunctionEnv_cells fo.kind (λx hx=>.inl ?_) λenv heq s1 x=>?_
 .rcases aaH.mp hx with rfl | hx
  .exact fo.n1
  rcases aaH.mp hx with rfl | hx
  .exact fo.n2
  exact aaK.mp hx▸fo.n3
 refine ⟨(top.nolimit.keeps fW).keeps x.toInCall.keep,codeAny_func ?_⟩
 have eL:env.locals=s.heap.objs.size:=by rw [heq];rfl
 have eK:∀y,env.kindOf y=fd.scope.names.lookup y:=λy=>by rw [heq];rfl
 have lt:=x.toInCall.ns.lt
 have kp:=x.toInCall.keep
 have gr:dJ s.heap s1.heap:=⟨kp,by rw [eL] at lt;exact aaI lt⟩
 refine P1 x.toInCall.same λh1 tk e0=>?_;subst e0
 have k1:=(eK _).trans fo.n1
 have k2:=(eK _).trans fo.n2
 have k3:=(eK _).trans fo.n3
 have IE:M8 env h1 _:=⟨by rw [heq];exact fo.kind,by rw [heq];exact fo.gl,by rw [heq];exact fo.bi,x.toInCall.ns,k1,k2,k3,(eK _).trans fo.n4⟩
 refine wpAny_mono (BU (msg:=msg) (dv:=dv) (S:=λb=>S b\/b=env.locals) (s:={s with heap:=h1,toks:=tk}) W tf (λb o q=>kp _ _ (fW b o q)) IE (.inr rfl) (λb o q=>.inl (Vn b o q)) (λb q=>q.elim (λq=>aax (hS b q) gr.2) λq=>q▸lt) ?_ ?_ ?_ (I.mono (λq=>q.elim I.lo λq=>Nat.lt_irrefl _ ((q.trans eL)▸he)) (λd n w q=>w.elim λo w=>q.elim n λq=>Nat.lt_irrefl _ ((q.trans eL)▸Heap.lt_size w)) kp) hl
  (T:=λfl s'=>fl= .next/\T s') λh' ME I2 K2=>⟨rfl,hT h' ME (I2.mono (λq=>I2.lo (.inl q)) (λd n zz q=>n (.inl q)) λzz zz q=>q) ⟨λb o q r=>K2.1 b o (.inl q) (kp b o r),aaw gr.2 K2.2⟩⟩) (λfl s2 z=>?_) λzz zz z=>z.elim
 .unfold bindL;rw [if_pos k1];unfold bindL;rw [if_pos k2];unfold bindL;rw [if_pos k3];delta bindL;show (if _ then _ else if _ then _ else if _ then _ else _)=_;rw [if_neg (beq_eq_false_iff_ne.mp (by decide+kernel)),if_neg (beq_eq_false_iff_ne.mp (by decide+kernel)),if_pos rfl]
 .unfold bindL;rw [if_pos k1];unfold bindL;rw [if_pos k2];unfold bindL;rw [if_pos k3];delta bindL;show (if _ then _ else if _ then _ else if _ then _ else _)=_;rw [if_neg (beq_eq_false_iff_ne.mp (by decide+kernel)),if_pos rfl]
 .unfold bindL;rw [if_pos k1];unfold bindL;rw [if_pos k2];unfold bindL;rw [if_pos k3];delta bindL;show (if _ then _ else if _ then _ else if _ then _ else _)=_;rw [if_pos rfl]
 .obtain ⟨rfl,z⟩:=z
  exact ⟨rfl,z⟩
end
section
variable {M:Mo} {A:Around} {s:Shared} {C:Addr} {E:Value->Shared->Prop}
noncomputable abbrev KX (h:Heap):Addr->Prop:=λb=>b < h.objs.size
theorem HR (W:Wd M) (tf:TF M.K C) {msg:Value} (Dm:A.depth+2 < recursionLimit) (fW:∀x o,M.h0.get? x=some o->s.heap.get? x=some o)
  {T:Value->Shared->Prop} (hT:∀h' tk e ns,xF (KX s.heap) h' e C ns->ce (KX s.heap) s.heap h'->T (.ref e) {s with heap:=h',toks:=tk}):
  wpAny M.m A (call (.ref C) [msg]) T E s:=by
 have X:=W.X.keeps fW
 refine uh tf.obj λdT tv=>?_
 refine AL tf.init λf fd o hi ZL hf hd ok=>?_
 obtain ⟨hh,g,d,tk,os⟩:=s
 dsimp only at fW X hT
 refine HS (X _ _ tv) X hi ZL (by show 1<=sizeLine;decide) ?_
 have k:∀b o,hh.get? b=some o->((hh.push {cls:= .type "tuple",data:= .seq [msg].toArray}).push (FK (.ref C) (.ref hh.objs.size))).get? b=some o:=λb o e=>Heap.get?_push_of_some _ (Heap.get?_push_of_some _ e)
 have sz:((hh.push {cls:= .type "tuple",data:= .seq [msg].toArray}).push (FK (.ref C) (.ref hh.objs.size))).objs.size=hh.objs.size+2:=by rw [Heap.size_push,Heap.size_push]
 have KI:((hh.push {cls:= .type "tuple",data:= .seq [msg].toArray}).push (FK (.ref C) (.ref hh.objs.size))).get? (hh.objs.size+1)=some (FK (.ref C) (.ref hh.objs.size)):=by heap_get
 refine wpAny_mono (Cw (S:=KX hh) (s:=⟨_,g,d,tk,os⟩) W tf (Nat.lt_of_succ_lt Dm) hf hd ok (λb o e=>k _ _ (fW b o e)) (λb o e=>Heap.lt_size (fW b o e)) (λb hb=>?_) ?_ ⟨λq=>?_,_,hh.objs.size,KI,rfl,rfl,.inl rfl⟩
  (T:=λs'=>T (.ref (hh.objs.size+1)) s') λh' ME I K2=>hT h' ME _ _ I ⟨λb o l e=>K2.1 b o l (k b o e),?_⟩) (λr s' z=>z) λzz zz z=>z.elim
 .exact Nat.lt_of_lt_of_eq (aax hb (aaM _ 2)) sz.symm
 .exact Nat.lt_of_lt_of_eq (aaC _) sz.symm
 .exact Nat.not_succ_lt_self q
 .exact aaw (aaw (aaM _ 2) (aaS sz.symm)) K2.2
theorem tu {env:Env} {dT:R2} {x:Sem Value} {Q:Flow->Shared->Prop} (hh:A.handled=none)
  (h:wpAny M.m A x (λv s₁=>∃e t o,v= .ref e/\s₁.heap.get? C=some (HY dT C)/\s₁.heap.get? e=some o/\o.cls= .ref C/\o.data= .fields #[.ref t,.none,.none,.none,.bool false,.none]/\E (.ref e) s₁) E s):
  wpAny M.m A (raiseStmt env (some x) none) Q E s:=by
 refine wpAny_bind (wpAny_mono h (λv s₁ h₁=>?_) λzz zz x=>x)
 refine jn h₁ λe t o e0 hC he m7 um hE=>?_;subst e0
 obtain ⟨hp,g,d,tk,os⟩:=s₁
 obtain ⟨oc,od,V5,Ol⟩:=o
 dsimp only at m7 um he hC
 subst m7 um
 repeat (first | with_reducible refine wpAny_loadPart_at he ?_ | with_reducible refine wpAny_loadPart_at hC ?_ | (with_reducible refine wpAny_isSubtype_exc hC ?_;rw [(Oh (C:=C) (P:=dT.P))]) | wp_step)
 exact wpAny_raiseNew_none hh hE
end
section
variable {M:Mo} {k:Nat} {A:Around} {p:Pt} {C:Addr} {sc:Scope} {env:Env} {loc:Loc} {E:Value->Shared->Prop}
theorem E4 (W:Wd M) (tf:TF M.K C) (z:nv M k A p sc env loc) (hg:aU sc "TreeFault"=true)
  {m:Str} {c:Nat} {np cp S9 pos:Pos} {Q:Flow->Shared->Prop}
  (hE:∀h' tk e ns,xF (KX p.h) h' e C ns->ce (KX p.h) p.h h'->E (.ref e) (p.at h' tk).s):
  wpAny M.m A (exec (.Raise (some (.Call (.Name ("TreeFault":Str) np) [.Constant (.str m) c cp] [] S9)) none pos) env) Q E p.s:=by
 refine uh tf.obj λdT tv=>?_
 have X:=W.X.keeps z.rep.base
 have Dm:A.depth+2 < recursionLimit:=by have:=z.cx.depth;unfold recursionLimit;exact aaz (abb (aaw (aaM _ _) this) 2) (by decide)
 refine be (arm_exec_Raise ..) ?_
 refine wpAny_bind (wpAny_standAt ?_)
 refine tu (C:=C) (dT:=dT) z.cx.hd ?_
 refine wpAny_bind ?_
 refine be (arm_eval_Call_Name' ..) ?_
 refine wpAny_bind ?_
 refine wpAny_mono (eR W z.eo z.rep hg (cS (x:="TreeFault") tf.hC) (T:=λv s'=>v= .ref C/\s'=p.s) ⟨rfl,rfl⟩) (λv s1 z=>?_) λzz zz z=>z.elim
 obtain ⟨rfl,rfl⟩:=z
 refine callWith_of rfl (keeps_K tf.keep) ?_
 refine Calls.evalArgs_plain ?_
 refine Calls.spliced_cons ?_
 refine wpAny_mkText ?_
 refine Calls.spliced_nil ?_
 refine ⟨X,?_⟩
 refine HR (s:={p.s with toks:=p.s.toks+1}) W tf Dm z.rep.base λh' tk e ns I k=>?_
 refine wpAny_bind (wpAny_standAt (wpAny_pure ?_))
 obtain ⟨lo,o,t',ho,m7,um,_⟩:=id I
 exact (cZ e t' o ⟨rfl,k.1 _ _ (Heap.lt_size (X _ _ tv)) (X _ _ tv),ho,m7,um,hE h' tk e ns I k⟩)
end
noncomputable def s8 (m:Str) (c:Nat) (q:Nat->Pos):Stmt:= .Raise (some (.Call (.Name ("TreeFault":Str) (q 1)) [.Constant (.str m) c (q 2)] [] (q 3))) none (q 4)
structure Rc (K:Frag):Prop where
 ex:∃fd s1 t pp e rest m c q,sQ K "split_pages"=some (fd,s1:: .If t (s8 m c q::pp) e (q 0)::rest)/\lV (comp 20) (dz 20) fd.scope s1=some (S.set "row" (X.call "pages" (.o (.loc "shelf"))))/\comp 20 true fd.scope t=some qV/\aU fd.scope "TreeFault"=true
structure gE (M:Mo) (p:Pt) (env:Env):Prop where
 fn:env.scope.kind= .function
 fr:env.frame=some env.locals
 off:¬Own p env.locals/\M.h0.objs.size<=env.locals
 ob:∃o es ep,p.h.get? env.locals=some o/\o.data= .dict es ep
noncomputable def Js (outer:List Env):Addr->Prop:=λx=>∃env∈outer,env.frame=some x
noncomputable def RL (outer:List Env) (Xs:List Addr):Addr->Prop:=λx=>Js outer x\/x∈Xs
section
variable {M:Mo} {k:Nat} {A:Around} {p p' p3:Pt} {C:Addr} {sc:Scope} {env:Env} {loc:Loc} {P:HP->Prop} {outer:List Env} {Xs:List Addr}
theorem aI.LC (eo:aI M p sc env loc) (fr:env.frame=some env.locals):gE M p env:=
 ⟨eo.fn,fr,eo.mW,eo.ns.elim λzz h=>bj h.1 λo es ep h=>(cZ o es ep ⟨h.1,h.2.1⟩)⟩
theorem gE.after (f:gE M p env) (a:After M c6 p p'):gE M p' env:=by
 refine tR f.ob λo es ep ho hd=>?_
 exact ⟨f.fn,f.fr,⟨a.own (Heap.lt_size ho) f.off.1,f.off.2⟩,o,es,ep,a.keep _ o ho f.off.1 id,hd⟩
theorem gE.ou (f:gE M p env):∀o,p.h.get? env.locals=some o->¬gX o:=λo' e z=>by
 refine tR f.ob λo es ep ho hd=>?_
 refine ga z λzz vs kk z=>?_
 rw [ho] at e;obtain rfl:=aay e;replace z:=(hd)▸z;cases z
theorem Js.at (HU:∀env∈outer,gE M p env) {x:Addr} (h:Js outer x):∃env∈outer,env.locals=x/\gE M p env:=h.elim λen h=>⟨en,h.1,aay ((HU en h.1).fr.symm.trans h.2),HU en h.1⟩
theorem j7 {B h:Heap} {W:WM} {H:HP} {s:Shared}:∀{l:List Env},(∀env∈l,gE M ⟨W,H,{s with heap:=h}⟩ env/\B.get? env.locals=none)->h.FunFrames B l
 | [],_=>trivial
 | env::r,x=>by
  refine qk (x env (.head _)) λf hB=>?_
  refine tR f.ob λo es ep ho hd=>?_
  exact ⟨by rw [f.fn];decide,(bH env.locals o ⟨f.fr,hB,ho,λvs q=>by replace q:=(hd)▸q;cases q⟩),j7 λe he=>x e (.tail _ he)⟩
theorem II (W:Wd M) (tf:TF M.K C) (z:nv M k A p sc env loc) {s1:Stmt} {t:Expr} {pp e rest:List Stmt} {m:Str} {c:Nat} {q:Nat->Pos} (h1:lV (comp 20) (dz 20) sc s1=some (S.set "row" (X.call "pages" (.o (.loc "shelf"))))) (h2:comp 20 true sc t=some qV) (hg:aU sc "TreeFault"=true)
  (hQ:X.call "pages" (.o (.loc "shelf")) (Γc M k) loc p.H λv H1=>qV (Γc M k) (loc.upd "row" v) H1 λu H2=>cP u H2 λb H3=>b=true/\P H3) {T:Flow->Shared->Prop} {E:Value->Shared->Prop}
  (hE:∀p2 IF h' tk e ns,P p2.H->After M (fO sc env) p p2->aI M p2 sc env IF->xF (KX p2.h) h' e C ns->ce (KX p2.h) p2.h h'->E (.ref e) (p2.at h' tk).s):wpAny M.m A (execs (s1:: .If t (s8 m c q::pp) e (q 0)::rest) env) T E p.s:=by
 refine be (arm_execs_cons ..) ?_
 refine wpAny_bind (tI (nY W (nq W 20) (λh=>iQ W 20 h) h1 z (Q:=λfl loc' H'=>match fl with | .next=>qV (Γc M k) loc' H' (λu H2=>cP u H2 λb H3=>b=true/\P H3) | _=>False) hQ _ λp1 f fl Ct q1 r eo a=>?_))
 cases fl with
 | brk=>exact q1.elim
 | cont=>exact q1.elim
 | ret _=>exact q1.elim
 | next=>
  obtain rfl:=show f= .next from r
  show wpAny _ _ (execs _ env) _ _ _
  refine be (arm_execs_cons ..) ?_;rw [arm_exec_If]
  refine wpAny_bind (wpAny_bind (wpAny_standAt (wpAny_bind (tI (((nq W 20).T h2).2 ⟨z.cx,eo,a.rep⟩ (F:=λzz b H=>b=true/\P H) q1 _ λp2 v b zz hf a2=>?_)))))
  obtain ⟨rfl,hP⟩:=hf
  refine be (arm_execs_cons ..) ?_
  exact wpAny_bind (E4 W tf ⟨z.cx,eo.after a2,a2.rep⟩ hg λh' tk e ns I kk=>hE p2 Ct h' tk e ns hP (a.trans a2.no) (eo.after a2) I kk)
theorem Hw (W:Wd M) (tf:TF M.K C) (sp:Rc M.K) (cx:Hm (k+1) A) (R:Rep M p) {a:Addr} (ha:fa M.K "split_pages"=some a) {vs:List Value} {sh ix:AV} (r:L2 (VR p) vs [sh,ix]) (qx:A.frames=some outer) (HU:∀env∈outer,gE M p env)
  (hQ:RP (Γc M k) sh ix p.H P) {T:Result->Shared->Prop}
  (hT:∀(p3:Pt) (e t:Addr) (B h':Heap) (Xs:List Addr),P p3.H->After M c6 p p3->Heap.FlyingW B outer e (.ref C) (.ref t) h'->p3.h.UpToSlots h'->(∀b o,B.get? b=some o->p3.h.get? b=some o)->(∀b o,p3.h.get? b=some o->¬RL outer Xs b->B.get? b=some o)->
   (∀x∈Xs,p.h.objs.size<=x/\¬Own p3 x/\∀o,p3.h.get? x=some o->¬gX o)->T (.error (.ref e)) (p3.at h' p3.s.toks).s):codeAny M.m A (.call (.ref a) ⟨vs,[]⟩) T p.s:=by
 have hm:("split_pages",["shelf","indexes"],iC)∈fq:=aaO (i:=41) rfl
 refine c4 (Ad W hm ha) λfd body f hk=>?_
 obtain ⟨Uh,s1,t,pp,el,rest,m,c,q,y7,h1,h2,hg⟩:=sp.ex
 cases hk.symm.trans y7
 have hd:=f.LX
 unfold oB at hd
 rw [beq_eq_false_iff_ne.mpr (by decide)] at hd
 refine iT W f cx R r rfl (gO f.p1 f.p2 f.p3 f.p4 f.p5 (dA hd) (r.len).symm f.nd) λenv Wr tk hF hL hB g z a1=>codeAny_func (II W tf z h1 h2 hg hQ λp2 IF h3 JP e ns hP a2 xZ I kk=>?_)
 have Rj:After M c6 p p2:=After.drop (a1.no.trans a2) λy hy=>.inr (hB y hy)
 have Lq:After M c6 p2 (p2.at h3 JP):=After.grow Rj.rep (⟨λx o q=>kk.1 x o (Heap.lt_size q) q,kk.2⟩)
 have a3:=Rj.trans Lq
 obtain ⟨lo,oe,t',ho,m7,um,_⟩:=I
 have Bf:gE M (p2.at h3 JP) env:=(xZ.LC hF).after Lq
 have WT:∀en∈outer,gE M (p2.at h3 JP) en:=λen qB=>(HU en qB).after a3
 have QU:h3.FunFrames (hideAll h3 (e::env.locals::outer.filterMap (·.frame))) (env::outer):=j7 (M:=M) (W:=p2.W) (H:=p2.H) (s:=(p2.at h3 JP).s) λen qB=>by
  rcases aaH.mp qB with rfl | qB
  .exact ⟨Bf,hideAll_none _ (.tail _ (.head _))⟩
  .exact ⟨WT en qB,hideAll_none _ (.tail _ (.tail _ (abB.mpr ⟨en,qB,(WT en qB).fr⟩)))⟩
 refine wpAny_leaving_firstW (s:=(p2.at h3 JP).s) (base:=hideAll h3 (e::env.locals::outer.filterMap (·.frame))) (Around.frames_deeper qx) QU Bf.fr ho (λb o q=>of_hideAll _ q) (hideAll_none _ (.head _)) um rfl rfl λh' hL=>?_
 obtain ⟨y1,⟨_,_,y2⟩,y3,y4⟩:=hL
 replace y3:=(m7)▸y3
 refine hT (p2.at h3 JP) e t' _ h' [e,env.locals] hP a3 ⟨y1,hideAll_none _ (.head _),y2,y3⟩ y4 (λb o q=>of_hideAll _ q) (λb o q n=>hideAll_get _ q λhm=>?_) λx hx=>?_
 .rcases aaH.mp hm with q | hm
  .exact n (.inr (q▸ .head _))
  .rcases aaH.mp hm with q | hm
   .exact n (.inr (q▸ .tail _ (.head _)))
   .exact (abB.mp hm).elim λen h=>n (.inl ⟨en,h.1,h.2⟩)
 .rcases aaH.mp hx with rfl | hx
  .exact ⟨aaw Rj.size (aaP.mp lo),(λw=>lo (Rj.rep.own w).lt),λo q ⟨zz,vs,kk,z⟩=>by
    have q:h3.get? x=some o:=q
    rw [ho] at q;obtain rfl:=aay q;replace z:=(um)▸z;cases z⟩
  .rw [aaK.mp hx]
   exact ⟨hL,Bf.off.1,Bf.ou⟩
theorem After.except {h':Heap} {t:Nat} (a:After M c6 p p3) (h0:M.h0.objs.size<=p.h.objs.size) (hs:p.h.objs.size<=h'.objs.size) (HU:∀env∈outer,gE M p3 env)
  (hk:∀b o,p3.h.get? b=some o->¬RL outer Xs b->h'.get? b=some o) (hX:∀x∈Xs,p.h.objs.size<=x/\¬Own p3 x/\∀o,p3.h.get? x=some o->¬gX o):After M (Js outer) p (p3.at h' t):=by
 have hF:∀b,RL outer Xs b->M.h0.objs.size<=b/\¬Own p3 b/\∀o,p3.h.get? b=some o->¬gX o:=λb hb=>hb.elim (λw=>by
  refine cU (w.at HU) λen qB e0 f=>?_;subst e0
  exact ⟨f.off.2,f.off.1,f.ou⟩) λq=>⟨aaw h0 (hX b q).1,(hX b q).2⟩
 have R:=a.rep
 have tk:dG p3.h h':=λx o e ht=>hk x o e λq=>(hF x q).2.2 o e ht
 have ow:∀{x},Own p3 x->∀o,p3.h.get? x=some o->h'.get? x=some o:=λw o e=>hk _ o e λq=>(hF _ q).2.1 w
 refine ⟨a.le,a.ρ,a.δ,a.new,λx o e n1 n2=>hk x o (a.keep x o e n1 id) λq=>q.elim n2 λq=>aaP.mpr (hX x q).1 (Heap.lt_size e),hs,by show ({p3.s with heap:=h',toks:=t}:Shared)=_;rw [a.same],λx o e ht=>tk x o (a.tup x o e ht) ht,λb hb=>?_,
  aaw h0 hs,λx o e=>hk x o (R.base x o e) λq=>aaP.mpr (hF x q).1 (Heap.lt_size e),R.lo,R.inj,λc hc=>(R.obj c hc).mono (.grow tk) (ow ⟨c,hc,.inl rfl⟩) (ow ⟨c,hc,.inr rfl⟩)⟩
 have t:=a.mv b hb
 exact ⟨t.1,λq o e=>ow ⟨b,aax hb a.le,.inl (a.ρ b hb).symm⟩ o (t.2 q o e)⟩
end
noncomputable def xO (q:Nat->Pos) (c1 c2:Nat):List Stmt:=
 [.Try [.Expr (.Call (.Name ("split_pages":Str) (q 1)) [.Name ("shelf":Str) (q 2),.Name ("indexes":Str) (q 3)] [] (q 4)) (q 5)] [.ExceptHandler (some (.Name ("TreeFault":Str) (q 6))) none [.Return (some (.Constant (.bool true) c1 (q 7))) (q 8)] (q 9)] [] [] (q 10),.Return (some (.Constant (.bool false) c2 (q 11))) (q 12)]
structure Up (K:Frag):Prop where
 ex:∃fd q c1 c2,sQ K "_law_raises"=some (fd,xO q c1 c2)/\CZ K "_law_raises" ["shelf","indexes"] fd=true/\
  sJ fd.scope "shelf"=some "shelf"/\sJ fd.scope "indexes"=some "indexes"/\aU fd.scope "split_pages"=true/\aU fd.scope "TreeFault"=true
section
variable {M:Mo} {k:Nat} {A:Around} {p p' p3:Pt} {C:Addr} {sc:Scope} {env:Env} {loc:Loc} {P:HP->Prop} {outer:List Env}
noncomputable def Xh (outer:List Env) (h h':Heap):Prop:=∀x o,Js outer x->h.get? x=some o->(∀vs,o.data≠ .fields vs)->∃sl,h'.get? x=some {o with slots:=sl}
theorem LO (f:∀env∈outer,gE M p3 env) {Xs:List Addr} {a0:Addr} (hX:∀x∈Xs,a0<=x) (h0:M.h0.objs.size<=a0) {x:Addr} {o:Obj} (e:M.h0.get? x=some o):¬RL outer Xs x:=λw=>
 have lt:=Heap.lt_size e
 w.elim (λw=>(w.at f).elim λen h=>aaP.mpr h.2.2.off.2 (h.2.1.symm▸lt)) λq=>aaP.mpr (aaw h0 (hX x q)) lt
theorem Ij (W:Wd M) (tf:TF M.K C) (sp:Rc M.K) (lr:Up M.K) (cx:Hm (k+2) A) (R:Rep M p) {a:Addr} (ha:fa M.K "_law_raises"=some a) {vs:List Value} {sh ix:AV} (r:L2 (VR p) vs [sh,ix]) (u1:sh≠ .unset) (u2:ix≠ .unset) (qx:A.frames=some outer) (HU:∀env∈outer,gE M p env)
  (hQ:RP (Γc M k) sh ix p.H P) {T:Result->Shared->Prop} (hT:∀p':Pt,P p'.H->After M (Js outer) p p'->Xh outer p.h p'.h->T (.ok (.ret (.bool true))) p'.s):codeAny M.m A (.call (.ref a) ⟨vs,[]⟩) T p.s:=by
 obtain ⟨fd,q,c1,c2,hk,Yo,k1,k2,k3,k4⟩:=lr.ex
 have f:=y6 hk Yo ha
 have hd:=f.LX
 unfold oB at hd
 rw [beq_eq_false_iff_ne.mpr (by decide)] at hd
 refine jv (Fg W (f:="split_pages") (by decide)) λspa Y5 FZ zz hn=>?_
 refine iT W f cx R r rfl (gO f.p1 f.p2 f.p3 f.p4 f.p5 (dA hd) (r.len).symm f.nd) λenv Wr tk hF hL hB g z a1=>codeAny_func ?_
 unfold xO
 refine be (arm_execs_cons ..) ?_
 refine wpAny_bind (wpAny_Try_except ?_)
 refine be (arm_execs_cons ..) ?_;rw [exec_Expr env _ _ (iB z.eo) (dc rfl)]
 refine wpAny_bind (wpAny_bind (wpAny_standAt (wpAny_bind ?_)))
 refine be (arm_eval_Call_Name' ..) ?_
 have L:jD M (XL.cons (X.loc "shelf") (XL.cons (X.loc "indexes") XL.nil)) fd.scope [.Name ("shelf":Str) (q 2),.Name ("indexes":Str) (q 3)]:=⟨λe he=>(aaH.mp he).elim (λe=>e▸rfl) λhe=>aaK.mp he▸rfl,gJ rfl (tq k1) (gJ rfl (tq k2) kV),λe=>nomatch e⟩
 have gx:((backTo (q 4) (starEach [.Name ("shelf":Str) (q 2),.Name ("indexes":Str) (q 3)] env)).any (·.1)||(backToKw (q 4) (keywordEach [] env)).any (·.1.isNone))=false:=by rw [bq L.pl];rfl
 refine wpAny_bind (tI (eR W z.eo z.rep k3 hn (callWith_of gx (keeps_K FZ) (tI (jo L z (Q:=λbG H'=>bG=[sh,ix]/\H'=p.H) (ak rfl (mG u1 (ak rfl (mG u2 ⟨rfl,rfl⟩)))) λp2 JU bG qq r2 a2=>?_)))))
 obtain ⟨rfl,hH⟩:=qq
 refine ⟨W.X.keeps a2.rep.base,?_⟩
 have Sl:After M c6 p p2:=a1.trans a2
 have O6:gE M p2 env:=(z.eo.LC hF).after a2
 have QH:∀en∈env::outer,gE M p2 en:=λen qB=>(aaH.mp qB).elim (λe=>e▸O6) λqB=>(HU en qB).after Sl
 refine wpAny_call (Hw W tf sp z.cx.call a2.rep Y5 r2 (Around.frames_deeper qx) QH (P:=P) (hH▸hQ) λp4 e t B h' Xs hP a4 fl up bs bk hX=>?_)
 refine wpAny_looks_onW (s:=(p4.at h' p4.s.toks).s) (Around.frames_deeper qx) O6.fr fl λh5 Ze Yg=>?_
 refine wpAny_landsW (s:=(p4.at h5 p4.s.toks).s) Ze λh6 Vl ZR=>?_
 have N5:∀en∈env::outer,gE M p4 en:=λen qB=>(QH en qB).after a4
 have b6:∀x o,M.h0.get? x=some o->h6.get? x=some o:=λx o e=>Vl.1 _ _ (bk x o (a4.rep.base x o e) (LO N5 (λx q=>(hX x q).1) a2.rep.sz e))
 refine uh tf.obj λdT tv=>?_
 refine aw Vl.there λoe Yn UG=>?_
 have kk:=jm k4
 refine bF W.top λzz zz zz zz T0=>?_
 refine wpAny_handleBy_cons (codeAny_handlers_test ?_) (by intro q;cases q)
 refine Name_function_global z.eo.fn (z.eo.Fn _ kk.2) (loadGlobal_global (by rw [z.eo.gl];exact T0.g.keeps b6) (mg_of W.X T0.g (cS (x:="TreeFault") tf.hC)) ?_) (hV kk.1 m9)
 refine wpAny_excMatches_sub_self (W.X.keeps b6 _ _ tv) Yn UG (by simp [tO]) ?_
 dsimp only
 rw [if_pos rfl]
 refine codeAny_handlers_suite ?_
 refine lands_againW Vl λh7 VC ZV=>?_
 have Wy:=Sl.trans a4
 have Vt:=O6.after a4
 have oY:p.h.objs.size<=h7.objs.size:=by
  refine mo VC λzz zz t0 zz=>?_;refine w5 t0 λzz t1 zz=>?_;refine sx t1 λL' o e1 zz e2 zz=>?_
  obtain rfl:=aay (O6.fr.symm.trans e1)
  exact aaw hL (aaI (Heap.lt_size e2))
 have SP:∀en∈outer,gE M p4 en:=λen qB=>N5 en (.tail _ qB)
 have fin:∀t,T (.ok (.ret (.bool true))) (p4.at h7 t).s:=λt=>by
  refine hT (p4.at h7 t) hP (After.except (Xs:=env.locals::Xs) Wy R.sz oY SP (λb o e n=>VC.1 _ _ (bk b o e λw=>n ?_)) λx hx=>?_) λx o hx e Xx=>?_
  .refine w.elim (λw=>w.elim λen h=>(aaH.mp h.1).elim (λee=>.inr ?_) λqB=>.inl ⟨en,qB,h.2⟩) λq=>.inr (.tail _ q)
   cases ee
   exact aay (O6.fr.symm.trans h.2)▸ .head _
  .rcases aaH.mp hx with rfl | hx
   .exact ⟨hL,Vt.off.1,Vt.ou⟩
   .exact ⟨aaw Sl.size (hX x hx).1,(hX x hx).2⟩
  .refine cU (hx.at HU) λen qB e0 f'=>?_;subst e0
   exact (((up.trans Yg).trans ZR).trans ZV) _ o (Wy.keep _ o e f'.off.1 id) Xx
 refine be (arm_execs_cons ..) ?_
 refine wpAny_bind ?_
 refine be (arm_exec_Return ..) ?_
 refine wpAny_bind (wpAny_standAt ?_)
 refine wpAny_bind (wpAny_pure (wpAny_pure (wpAny_pure ?_)))
 exact wpAny_pure (fin _)
theorem aI.Mc (e:aI M p sc env loc) (a:After M (Js outer) p p') (ups:Xh outer p.h p'.h):aI M p' sc env loc:=by
 have key:∀x o,¬Own p x->p.h.get? x=some o->(∀vs,o.data≠ .fields vs)->∃sl,p'.h.get? x=some {o with slots:=sl}:=λx o q z d=>by
  by_cases hx:Js outer x
  .exact ups x o hx z d
  .exact ⟨o.slots,a.keep _ o z q hx⟩
 refine aw e.ns λm hm hv=>?_
 have ug:p'.h.Ns env.locals m:=by
  refine iP hm λo es ep ho hd r=>?_
  obtain ⟨sl,q⟩:=key _ o e.mW.1 ho λvs z=>by replace z:=(hd)▸z;cases z
  exact (cZ _ es ep ⟨q,hd,r⟩)
 have J1:∀{c ov},¬Own p c->p.h.IsCell c ov->p'.h.IsCell c ov:=λn t0=>aw t0 λo ho hd=>by
  obtain ⟨sl,q⟩:=key _ o n ho λvs z=>by replace z:=(hd)▸z;cases z
  exact ⟨_,q,hd⟩
 exact {e with
  ns:=⟨m,ug,λx h1 h0 h2=>(hv x h1 h0 h2).imp λv q=>⟨q.1,a.rel q.2⟩⟩
  mW:=⟨a.own hm.lt e.mW.1,e.mW.2⟩
  cells:=λx c hc=>have q:=e.cells x c hc;q.1.elim λov z=>⟨⟨ov,J1 q.2.1 z⟩,a.own (k6 z) q.2.1,q.2.2⟩
  mS:=λx h1 h2=>(e.mS x h1 h2).imp λc q=>q.imp λv q=>⟨q.1,J1 (e.cells _ c q.1).2.1 q.2.1,a.rel q.2.2⟩}
end
noncomputable def NJ (p1:Pos) (as:List Expr) (p2:Pos):Expr:= .Call (.Name ("_law_raises":Str) p1) as [] p2
noncomputable def Az (q:Nat->Pos) (J2 IL:List Expr) (MK:List Stmt):Stmt:= .If (.BoolOp .Or [.UnaryOp .Not (NJ (q 1) J2 (q 2)) (q 3),.UnaryOp .Not (NJ (q 4) IL (q 5)) (q 6)] (q 7)) MK [] (q 8)
structure VO (K:Frag):Prop where
 ex:∃fd body q J2 IL MK M7,sQ K "law"=some (fd,body)/\body.drop 16=[Az q J2 IL MK,M7]/\dU (comp 20) fd.scope J2=some (XL.cons (X.loc "shelf") (.o I9))/\dU (comp 20) fd.scope IL=some (XL.cons (X.loc "shelf") (.o GK))/\
  lV (comp 20) (dz 20) fd.scope M7=some (S.ret vy)/\aU fd.scope "_law_raises"=true
structure Wx (M:Mo) (C:Addr):Prop extends Wd M where
 tf:TF M.K C
 sp:Rc M.K
 lr:Up M.K
 lw:VO M.K
noncomputable def Ei:Addr->Prop:=λzz=>True
theorem Ci {Q:KV}:rG (λix H=>ix≠ .unset/\Q ix H)=rG Q:=funext λvs=>funext λH=>congrArg (Lz vs) (propext ⟨λh=>⟨h.1.2⟩,λh=>⟨AV.noConfusion,h.1⟩⟩)
theorem rI:∀(a b:List Stmt) (env:Env),execs (a++b) env=(do
  match <-execs a env with
  | .next=>execs b env
  | f=>pure f)
 | [],b,env=>by rw [arm_execs_nil,pure_bind];rfl
 | s::a,b,env=>by
  rw [List.cons_append,arm_execs_cons,arm_execs_cons,bind_assoc]
  refine congrArg (exec s env >>= ·) (funext λf=>?_)
  cases f with
  | next=>exact rI a b env
  | _=>exact (pure_bind _ _).symm
section
variable {M:Mo} {k:Nat} {A:Around} {p p' p3:Pt} {C:Addr} {sc:Scope} {env:Env} {loc:Loc} {P:HP->Prop}
theorem z2 (W:Wx M C) (z:nv M (k+2) A p sc env loc) (fr:env.frame=some env.locals) (hA:A.frames=some [env]) {as:List Expr} {p1 p2:Pos} {es:XL} (hg:aU sc "_law_raises"=true) (L:jD M (XL.cons (X.loc "shelf") (.o (X.list es))) sc as) (hu:loc "shelf"≠ .unset)
  (hQ:X.list es (Γc M (k+2)) loc p.H λix H1=>RP (Γc M k) (loc "shelf") ix H1 P) {T:Bool->Shared->Prop} (hT:∀p',P p'.H->aI M p' sc env loc->After M Ei p p'->T true p'.s):wpAny M.m A (isTrue (NJ p1 as p2) env (eval (NJ p1 as p2) env)) T bL p.s:=by
 refine jv (Fg W.toWd (f:="_law_raises") (by decide)) λa ha FZ zz hn=>?_
 show wpAny _ _ (do let v <-eval (.Call (.Name ("_law_raises":Str) p1) as [] p2) env;standAt _;holding [v] (truthy v)) _ _ _
 rw [arm_eval_Call_Name']
 have gx:((backTo p2 (starEach as env)).any (·.1)||(backToKw p2 (keywordEach [] env)).any (·.1.isNone))=false:=by rw [bq L.pl];rfl
 have hq:(XL.cons (X.loc "shelf") (.o (X.list es))) (Γc M (k+2)) loc p.H (λbG H'=>∃ix,bG=[loc "shelf",ix]/\ix≠ .unset/\RP (Γc M k) (loc "shelf") ix H' P):=by
  refine ak rfl (mG hu ?_)
  show es _ _ _ (rG (λix H'=>∃RY,[loc "shelf",ix]=[loc "shelf",RY]/\RY≠ .unset/\RP (Γc M k) (loc "shelf") RY H' P))
  have hQ:es _ _ _ (rG _):=hQ
  rw [<-Ci] at hQ
  refine Eq.mp (congrArg (λF=>es _ _ _ (rG F)) (funext λix=>funext λH'=>propext ⟨λh=>⟨ix,rfl,h⟩,λh=>h.elim λRY h=>?_⟩)) hQ
  cases h.1;exact h.2
 refine wpAny_bind (wpAny_bind (eR W.toWd z.eo z.rep hg hn (callWith_of gx (keeps_K FZ) (jo L z hq λp2 vs bG qq r a1=>?_))))
 refine E7 qq λix e0 w8 hR=>?_;subst e0
 refine ⟨W.X.keeps a1.rep.base,wpAny_call ?_⟩
 have BJ:=z.eo.after a1
 refine Ij W.toWd W.tf W.sp W.lr z.cx.call a1.rep ha r hu w8 hA (λen qB=>aaK.mp qB▸(BJ.LC fr)) hR λp4 hP a4 up=>?_
 refine wpAny_bind (wpAny_standAt (wpAny_holding ?_))
 refine kq a4.rep (v:= .bool true) (av:= .bool true) (F:=λzz b zz=>b=true) rfl rfl λt b zz hb=>?_
 subst hb
 have at_:=After.toks (B:=c6) a4.rep t
 exact hT (p4.at p4.h t) hP ((BJ.Mc a4 up).after at_) (((a1.weaken (B':=Ei) λzz zz=>trivial).trans (a4.weaken (B':=Ei) λzz zz=>trivial)).trans (at_.weaken λzz zz=>trivial))
theorem FV (W:Wx M C) (z:nv M (k+2) A p sc env loc) (fr:env.frame=some env.locals) (hA:A.frames=some [env]) {J2 IL:List Expr} {q:Nat->Pos} {MK:List Stmt} {M7:Stmt} (hg:aU sc "_law_raises"=true)
  (h1:dU (comp 20) sc J2=some (XL.cons (X.loc "shelf") (.o I9))) (h2:dU (comp 20) sc IL=some (XL.cons (X.loc "shelf") (.o GK))) (h3:lV (comp 20) (dz 20) sc M7=some (S.ret vy)) {Q:KV} (hQ:D8 (Γc M (k+2)) (Γc M k) loc p.H Q)
  {T:Flow->Shared->Prop} (hT:∀p' v av,Q av p'.H->VR p' v av->After M Ei p p'->T (.ret v) p'.s):wpAny M.m A (execs [Az q J2 IL MK,M7] env) T bL p.s:=by
 have I:=nq W.toWd 20
 unfold Az
 refine be (arm_execs_cons ..) ?_;rw [arm_exec_If]
 refine wpAny_bind (wpAny_bind (wpAny_standAt (wpAny_bind ?_)))
 refine be (arm_isTrue_BoolOp ..) ?_;refine be (arm_allTrue_cons ..) ?_;rw [arm_isTrue_UnaryOp]
 refine wpAny_bind (wpAny_bind (z2 W z fr hA hg (c8 I h1) hQ.1 hQ.2 λp5 q5 Sp a5=>wpAny_pure ?_))
 show wpAny _ _ (allTrue .Or [.UnaryOp .Not (NJ (q 4) IL (q 5)) (q 6)] env) _ _ _
 refine be (arm_allTrue_cons ..) ?_;rw [arm_isTrue_UnaryOp]
 refine wpAny_bind (wpAny_bind (z2 W ⟨z.cx,Sp,a5.rep⟩ fr hA hg (c8 I h2) hQ.1 q5 λp6 q6 XF a6=>wpAny_pure ?_))
 show wpAny _ _ (allTrue .Or [] env) _ _ _
 refine be (arm_allTrue_nil ..) ?_
 refine wpAny_pure ?_
 show wpAny _ _ (execs [] env) _ _ _
 refine be (arm_execs_nil ..) ?_
 refine wpAny_pure ?_
 refine nW (nY W.toWd I (λh=>iQ W.toWd 20 h) h3) rW ⟨z.cx,XF,a6.rep⟩ (Q:=λfl zz H'=>match fl with | .ret v=>Q v H' | _=>False) q6 _ λp7 f fl Xu q7 r eo7 a7=>?_
 cases fl with
 | ret v=>exact r.elim λv h=>h.1▸hT p7 v _ q7 h.2 ((a5.trans a6).trans (a7.weaken λzz zz=>trivial))
 | next=>exact q7.elim
 | brk=>exact q7.elim
 | cont=>exact q7.elim
theorem DY (W:Wx M C) (cx:Hm (k+12) A) (R:Rep M p) {a:Addr} (ha:fa M.K "law"=some a) {v:Value} {n:Nat} {is:List Int} (r:VR p v (.ref n)) (e:p.H.g n= .no (is.map AV.int)) (hA:A.frames=some [])
  {T:Result->Shared->Prop} (hT:∀h' t,(∀x o,M.h0.get? x=some o->h'.get? x=some o)->T (.ok (.ret (.bool true))) {p.s with heap:=h',toks:=t}):codeAny M.m A (.call (.ref a) ⟨[v],[]⟩) T p.s:=by
 refine c4 (Ad W.toWd (aaO (i:=52) rfl) ha) λfd body f hk=>?_
 obtain ⟨Uh,W8,q,J2,IL,MK,M7,y7,hb,h1,h2,h3,hg⟩:=W.lw.ex
 cases hk.symm.trans y7
 have qx:dz 99 fd.scope (body.take 16)=some G6:=by
  have h:=W.ok.front
  unfold oy at h
  rw [hk] at h
  exact h
 have hd:=f.LX
 unfold oB at hd
 rw [beq_eq_false_iff_ne.mpr (by decide)] at hd
 have fin:∀{p6:Pt} {B:Addr->Prop},After M B p p6->T (.ok (.ret (.bool true))) p6.s:=λ{p6 zz} a=>by
  rw [a.same];exact hT p6.h p6.s.toks a.rep.base
 refine iT W.toWd f cx R (L2.cons r .nil) rfl (gO f.p1 f.p2 f.p3 f.p4 f.p5 (dA hd) rfl f.nd) λenv Wr tk hF hL hB g z a1=>codeAny_func ?_
 rw [<-List.take_append_drop 16 body];refine be (rI ..) ?_;rw [hb]
 refine wpAny_bind (tI (iQ W.toWd 99 qx z (PY (ZX W.toWd) (Q:=λv zz=>v= .bool true) e λzz=>rfl) _ λp5 ZB fl XY q5 r5 Sp a5=>?_))
 have WG:=a1.no.trans a5
 cases fl with
 | brk=>exact q5.elim
 | cont=>exact q5.elim
 | ret v=>
  obtain ⟨v,rfl,rv⟩:=r5
  obtain rfl:=show _=AV.bool true from q5
  obtain rfl:=show v= .bool true from rv
  exact wpAny_pure (fin WG)
 | next=>
  obtain rfl:=show ZB= .next from r5
  refine tI (FV W (k:=k+9) ⟨z.cx,Sp,a5.rep⟩ hF (Around.frames_deeper hA) hg h1 h2 h3 q5 λp6 v av q6 r6 a6=>?_)
  subst q6
  obtain rfl:=show v= .bool true from r6
  exact fin (WG.weaken (B':=Ei) (λzz zz=>trivial) |>.trans a6)
theorem De {prog:Program} {w:World} {K:Frag} {s:Shared} (W:Wx ⟨prog,w,K,s.heap⟩ C) {fv:Value} {p:Program} {loose:List Str} {mg mb:Str->Option Value} (T0:TopRead p loose mg mb s.heap) (UF:mg "law"=some fv) {x:Addr} {vs:List Value} {is:List Int} (hL:s.heap.IsList x vs.toArray) (hI:IntsAre vs is) (hn:¬(63:Int) < (is.length:Int)) {T:Result->Shared->Prop}
  (hT:∀h' t,(∀x o,s.heap.get? x=some o->h'.get? x=some o)->T (.ok (.ret (.bool true))) {s with heap:=h',toks:=t}):codeAny (model prog w) callerA (.call fv ⟨[.ref x],[]⟩) T s:=by
 obtain ⟨fd,body,_,_,_,_,_,hk,_⟩:=W.lw.ex
 refine aw (bb hk) λa ha zz=>?_
 cases UF.symm.trans (mg_of W.X T0.g (cS (x:="law") ha))
 refine jB hL λo ho hc k hd=>?_
 have R:Rep ⟨prog,w,K,s.heap⟩ ⟨⟨λzz=>x,λzz=>x⟩,⟨1,λzz=>.no (is.map AV.int),λzz=>0⟩,s⟩:=by
  refine ⟨aaF _,λzz zz q=>q,λa zz q=>(Bool.noConfusion q:False).elim,λa b ha hb n=>?_,λa ha=>?_⟩
  .exact absurd ((Nat.lt_one_iff.mp ha).trans (Nat.lt_one_iff.mp hb).symm) n
  .refine ⟨rfl,vs.toArray,k,?_,uH hI,?_⟩
   .obtain ⟨_,d,_,sl⟩:=o
    subst hc;subst hd
    exact (bH d sl ho)
   .rw [aaB]
    exact aaw (Int.ofNat_le.mp (Int.not_lt.mp hn)) (by decide)
 exact DY (M:=⟨prog,w,K,s.heap⟩) (k:=0) (p:=⟨⟨λzz=>x,λzz=>x⟩,⟨1,λzz=>.no (is.map AV.int),λzz=>0⟩,s⟩) W ⟨rfl,rfl,by decide,by decide⟩ R ha ⟨rfl,Nat.zero_lt_one⟩ rfl rfl hT
end
noncomputable def X0:Stmt->List Expr
 | .Expr e _=>[e]
 | .Assign ts v _=>v::ts
 | .Return e _=>e.toList
 | .If e _ _ _=>[e]
 | .Raise e _ _=>e.toList
 | _=>[]
noncomputable def M4:Stmt->List Stmt × List Stmt × List ExceptHandler
 | .If _ b c _=>(b,c,[])
 | .Try b hs _ _ _=>(b,[],hs)
 | _=>([],[],[])
noncomputable def vH:ExceptHandler->List Expr × List Stmt
 | .ExceptHandler e _ b _=>(e.toList,b)
noncomputable def vE:Expr->List Expr × Nat
 | .Attribute o _ _=>([o],0)
 | .Call f as _ _=>(f::as,0)
 | .Constant _ c _=>([],c)
 | .UnaryOp _ e _=>([e],0)
 | .BoolOp _ es _=>(es,0)
 | _=>([],0)
noncomputable def sN (l:List Stmt) (i:Nat):Stmt:=l.getD i default
noncomputable def eS (s:Stmt) (i:Nat):Expr:=(X0 s).getD i default
noncomputable def eN (e:Expr) (i:Nat):Expr:=(vE e).1.getD i default
noncomputable def RB (l:List Pos) (n:Nat):Pos:=l.getD n default
noncomputable def JY (b:List Stmt):List Stmt:=
 let c:=eS (sN b 0) 0
 let t:=eS (sN b 1) 1
 let u:=eS (sN b 2) 1
 j9 (eN c 0).pos c.pos (RB [c.pos,(eN (eN c 0) 0).pos,(eN c 1).pos,(eN c 2).pos,(sN b 0).pos,(eN t 0).pos,t.pos,(eS (sN b 1) 0).pos,(sN b 1).pos,(eN u 0).pos,u.pos,(eS (sN b 2) 0).pos,(sN b 2).pos])
noncomputable def ZQ (b:List Stmt):List Stmt:=
 let t:=sN b 0
 let s:=sN (M4 t).1 0
 let c:=eS s 0
 let h:=(M4 t).2.2.getD 0 default
 let r:=sN (vH h).2 0
 let r2:=sN b 1
 xO (RB [c.pos,(eN c 0).pos,(eN c 1).pos,(eN c 2).pos,c.pos,s.pos,((vH h).1.getD 0 default).pos,(eS r 0).pos,r.pos,h.pos,t.pos,(eS r2 0).pos,r2.pos]) (vE (eS r 0)).2 (vE (eS r2 0)).2
noncomputable def VI (b:List Stmt):List Stmt:=
 let i:=sN b 1
 let r:=sN (M4 i).1 0
 let c:=eS r 0
 let m:=eN c 1
 sN b 0:: .If (eS i 0) (s8 ((P9 m).getD default) (vE m).2 (RB [i.pos,(eN c 0).pos,m.pos,c.pos,r.pos])::(M4 i).1.drop 1) (M4 i).2.1 i.pos::b.drop 2
noncomputable def Um (b:List Stmt):List Stmt:=
 let i:=sN b 16
 let o:=eS i 0
 let n1:=eN o 0
 let n2:=eN o 1
 [Az (RB [i.pos,(eN (eN n1 0) 0).pos,(eN n1 0).pos,n1.pos,(eN (eN n2 0) 0).pos,(eN n2 0).pos,n2.pos,o.pos,i.pos]) ((vE (eN n1 0)).1.drop 1) ((vE (eN n2 0)).1.drop 1) (M4 i).1,sN b 17]
noncomputable def Xt (K:Frag):Option (Option S × Option X × Bool):=(sQ K "split_pages").map λq=>(lV (comp 20) (dz 20) q.1.scope (sN q.2 0),comp 20 true q.1.scope (eS (sN q.2 1) 0),aU q.1.scope "TreeFault")
noncomputable def OB (b:List Stmt) (i:Nat):List Expr:=(vE (eN (eN (eS (sN b 16) 0) i) 0)).1.drop 1
noncomputable def Y8 (K:Frag):Option (Option XL × Option XL × Option S × Bool):=(sQ K "law").map λq=>(dU (comp 20) q.1.scope (OB q.2 0),dU (comp 20) q.1.scope (OB q.2 1),lV (comp 20) (dz 20) q.1.scope (sN q.2 17),aU q.1.scope "_law_raises")
noncomputable def UM (K:Frag):Option (Addr × FuncData × List Stmt):=(b7 K "TreeFault").bind λC=>(EN (findIn K (.ref C) "__init__")).bind λf=>(N9 K f).bind λfd=>(yA fd.body).map λb=>(f,fd,b)
noncomputable def VU (K:Frag) (f:Addr) (fd:FuncData) (b:List Stmt):Bool:=
 fd.globals==mainGlobals&&fd.closure.isEmpty&&fd.builtins==builtinsNs&&fd.scope.kind== .function&& !fd.scope.isGenerator&& !fd.scope.isCoroutine&&codeIn K fd.code fd.qualname&&
 fd.params.posonlyargs.isEmpty&&fd.params.args.map (·.arg)==[("self":Str),"what","at"]&&fd.params.vararg.isNone&&fd.params.kwonlyargs.isEmpty&&fd.params.kwarg.isNone&&
 (CL K fd.defaults).any (λl=>Nat.beq l.length 1)&&fd.scope.names.lookup ("self":Str)==some .local&&fd.scope.names.lookup ("what":Str)==some .local&&fd.scope.names.lookup ("at":Str)==some .local&&fd.scope.names.lookup ("Exception":Str)==some .globalImplicit&&
 typeIn K (.ref f)==some (.type "function")&&decide ((eN (eS (sN b 0) 0) 0).pos.endLine=(eS (sN b 0) 0).pos.line)
noncomputable def YB (K:Frag) (C:Addr):Bool:=findIn K (.ref C) "__setattr__"==some (some (.builtin "object.__setattr__"))&&findIn K (.ref C) "what"==some none&&findIn K (.ref C) "at"==some none&&keepIn K (.ref C)&&(K.lookup C).isSome&&(clsIn K C).isSome
noncomputable def Wb (C:Addr) (cd:ClassData) (o:Obj):Obj:=HY ⟨cd.name,cd.qualname,cd.ns,(EN (some (some (cd.mro.getD 1 .none)))).getD 0,cd.bases,cd.slotNames,cd.subclasses,cd.abstract,cd.collection,o.dict,o.slots.toList.getD 0 none,o.slots.toList.getD 1 none,o.slots.toList.getD 2 none,o.slots.toList.getD 3 none,o.slots.toList.getD 5 none⟩ C
noncomputable def Nn (K:Frag) (C:Addr):Bool:=makesIn K C&&plainGet K C ("x":Str)&&hasDictIn K C&&plainOver K C&&keepIn K (.ref C)&&findIn K (.ref C) "__class__"==some (some (.builtin "object.__class__"))&&mroIn K C (.type "object")==some true&&
 findIn K (.ref C) "__setattr__"==some (some (.builtin "object.__setattr__"))&&gg.all λf=>findIn K (.ref C) (Str.ofString f)==some none&&takerIn K C (Str.ofString f)==some none
structure Ck (K:Frag):Prop where
 fns:(fq.all λx=>Pm K x.1 x.2.1)=true
 Jr:fq.map (λx=>(sQ K x.1).bind λq=>dz 99 q.1.scope q.2)=fq.map λx=>some x.2.2
 front:oy K=some G6
 cls:(insts.all λc=>(b7 K c).any λC=>Nn K C)=true
 M6:(FX.all λx=>(b7 K x.1).any λC=>LM K C x.2 "__init__")=true
 ay:(aa.all λx=>(b7 K x.1.1).any λC=>LM K C x.2 x.1.2)=true
 bn:(kJ.all λb=>nsIn K mainGlobals (Str.ofString b)==some none)=true
 told:b7 K "told_objects"=b7 K "told"
 Px:(D5.all λt=>gH.all λc=>(sE K c).any λcv=>kitOne K (.type t) cv==some (Rv t c))=true
 qd:(insts.all λd=>gH.all λc=>(b7 K d).any λD=>(sE K c).any λcv=>kitOne K (.ref D) cv==some (xf d c))=true
 HI:specialIn K (.builtin "object.__class__") "__get__"=some (some (.builtin "getset_descriptor.__get__"))
 takes:takesIn K (.builtin "object.__class__")=some true
 fk:(nO.all λf=>(b7 K f).any λa=>keepIn K (.ref a)&&isFn K (.ref a))=true
 Aq:(Je.all λx=>yT K x.1 x.2)=true
 tf:((b7 K "TreeFault").any λC=>YB K C)=true
 Zq:((b7 K "TreeFault").bind λC=>K.lookup C)=(b7 K "TreeFault").bind λC=>(clsIn K C).bind λcd=>(K.lookup C).map (Wb C cd)
 ei:findCls K (.type "Exception") (.type "type") "__init__"=some (.val (.builtin "Exception.__init__"))
 ex:nsIn K mainGlobals ("Exception":Str)=some none
 ZS:((UM K).any λq=>VU K q.1 q.2.1 q.2.2)=true
 Y0:((UM K).map λq=>q.2.2)=(UM K).map λq=>JY q.2.2
 lr:((sQ K "_law_raises").any λq=>CZ K "_law_raises" ["shelf","indexes"] q.1&&sJ q.1.scope "shelf"==some "shelf"&&sJ q.1.scope "indexes"==some "indexes"&&aU q.1.scope "split_pages"&&aU q.1.scope "TreeFault")=true
 X8:((sQ K "_law_raises").map λq=>q.2)=(sQ K "_law_raises").map λq=>ZQ q.2
 sp:Xt K=some (some (S.set "row" (X.call "pages" (.o (.loc "shelf")))),some qV,true)
 ZJ:((sQ K "split_pages").map λq=>q.2)=(sQ K "split_pages").map λq=>VI q.2
 lw:Y8 K=some (some (XL.cons (X.loc "shelf") (.o I9)),some (XL.cons (X.loc "shelf") (.o GK)),some (S.ret vy),true)
 Y2:((sQ K "law").map λq=>q.2.drop 16)=(sQ K "law").map λq=>Um q.2
theorem m6 {α β:Type} {o:Option α} {x:α} {f g:α->β} (h:o.map f=o.map g) (e:o=some x):f x=g x:=aay (by rw [e] at h;exact h)
section
variable {K:Frag} (c:Ck K)
include c
theorem Ck.ZO:Wi K where
 fns:=c.fns
 Jr:=c.Jr
 front:=c.front
 M6:=c.M6
 ay:=c.ay
 bn:=c.bn
 told:=c.told
 Px:=c.Px
 qd:=c.qd
 HI:=c.HI
 takes:=c.takes
 fk:=c.fk
 Aq:=c.Aq
 cls n C h:=by
  have s:=kz h
  obtain ⟨C',h',k⟩:=oa (aaX.mp c.cls n s.2)
  obtain rfl:=aay (s.1.symm.trans h')
  unfold Nn at k
  simp only [Bool.and_eq_true,beq_iff_eq] at k
  obtain ⟨⟨⟨⟨⟨⟨⟨⟨h1,h2⟩,h3⟩,h4⟩,h5⟩,h6⟩,h7⟩,h8⟩,h9⟩:=k
  exact ⟨h1,h2,h3,h4,h5,h6,h7,h8,h9⟩
theorem Ck.X6:Up K:=by
 obtain ⟨⟨fd,b⟩,hq,h⟩:=oa c.lr
 simp only [Bool.and_eq_true,beq_iff_eq] at h
 obtain ⟨⟨⟨⟨h1,h2⟩,h3⟩,h4⟩,h5⟩:=h
 exact ⟨fd,_,_,_,hq.trans (congrArg (λb=>some (fd,b)) (m6 c.X8 hq)),h1,h2,h3,h4,h5⟩
theorem Ck.X7:Rc K:=by
 obtain ⟨⟨fd,b⟩,hq,h⟩:=bm c.sp
 exact ⟨fd,_,_,_,_,_,_,_,_,hq.trans (congrArg (λb=>some (fd,b)) (show b=VI b from m6 c.ZJ hq)),(congrArg (·.1) h),(congrArg (·.2.1) h),(congrArg (·.2.2) h)⟩
theorem Ck.XI:VO K:=by
 obtain ⟨⟨fd,b⟩,hq,h⟩:=bm c.lw
 have e:b.drop 16=Um b:=m6 (f:=λq=>q.2.drop 16) (g:=λq=>Um q.2) c.Y2 hq
 have h1:=congrArg (·.1) h
 have h2:=congrArg (·.2.1) h
 have h3:=congrArg (·.2.2.1) h
 have h4:=congrArg (·.2.2.2) h
 exact ⟨fd,b,_,_,_,_,_,hq,e,h1,h2,h3,h4⟩
omit c in
theorem Fw {v:Value} (h:(CL K v).any (λl=>Nat.beq l.length 1)=true):∃t o vs n d,v= .ref t/\K.lookup t=some o/\o.data= .seq vs n/\vs.toList=[d]:=by
 obtain ⟨l,hl,h1⟩:=oa h
 cases v with
 | ref t=>
  obtain ⟨o,ho,hl⟩:=bb hl
  obtain ⟨vs,n,hs,rfl⟩:=kM hl
  obtain ⟨v,hv⟩:=List.length_eq_one_iff.mp (Nat.eq_of_beq_eq_true h1)
  exact ⟨t,o,vs,n,v,rfl,ho,hs,hv⟩
 | _=>exact (nn hl).elim
omit c in
theorem LB {f:Addr} {fd:FuncData} {b:List Stmt} (k:VU K f fd b=true) (hb:fd.body= .stmts b) (e:b=JY b):Sr K fd/\typeIn K (.ref f)=some (.type "function"):=
 ⟨⟨beq_iff_eq.mp (bl (bl (bl (bl (bl (bl (bl (bl (bl (bl (bl (bl (bl (bl (bl (bl (bl (bl k)))))))))))))))))),List.isEmpty_iff.mp (br (bl (bl (bl (bl (bl (bl (bl (bl (bl (bl (bl (bl (bl (bl (bl (bl (bl k)))))))))))))))))),beq_iff_eq.mp (br (bl (bl (bl (bl (bl (bl (bl (bl (bl (bl (bl (bl (bl (bl (bl (bl k))))))))))))))))),⟨_,_,_,hb.trans (congrArg FuncBody.stmts e),of_decide_eq_true (br k)⟩,beq_iff_eq.mp (br (bl (bl (bl (bl (bl (bl (bl (bl (bl (bl (bl (bl (bl (bl (bl k)))))))))))))))),Bool.not_eq_true' _▸(br (bl (bl (bl (bl (bl (bl (bl (bl (bl (bl (bl (bl (bl (bl k))))))))))))))),Bool.not_eq_true' _▸(br (bl (bl (bl (bl (bl (bl (bl (bl (bl (bl (bl (bl (bl k)))))))))))))),br (bl (bl (bl (bl (bl (bl (bl (bl (bl (bl (bl (bl k)))))))))))),List.isEmpty_iff.mp (br (bl (bl (bl (bl (bl (bl (bl (bl (bl (bl (bl k)))))))))))),beq_iff_eq.mp (br (bl (bl (bl (bl (bl (bl (bl (bl (bl (bl k))))))))))),Option.isNone_iff_eq_none.mp (br (bl (bl (bl (bl (bl (bl (bl (bl (bl k)))))))))),List.isEmpty_iff.mp (br (bl (bl (bl (bl (bl (bl (bl (bl k))))))))),Option.isNone_iff_eq_none.mp (br (bl (bl (bl (bl (bl (bl (bl k)))))))),
  Fw (br (bl (bl (bl (bl (bl (bl k))))))),beq_iff_eq.mp (br (bl (bl (bl (bl (bl k)))))),beq_iff_eq.mp (br (bl (bl (bl (bl k))))),beq_iff_eq.mp (br (bl (bl (bl k)))),beq_iff_eq.mp (br (bl (bl k)))⟩,beq_iff_eq.mp (br (bl k))⟩
theorem Ck.X5:∃C,TF K C:=by
 obtain ⟨C,hC,h⟩:=oa c.tf
 obtain ⟨o,ho⟩:=aa7.mp (br (bl h))
 obtain ⟨cd,TS⟩:=aa7.mp (br h)
 have q:=c.Zq
 rw [hC] at q
 replace q:K.lookup C=(clsIn K C).bind λcd=>(K.lookup C).map (Wb C cd):=q
 rw [ho,TS] at q
 obtain ⟨⟨f,fd,b⟩,hq,k⟩:=oa c.ZS
 obtain ⟨C',Q9,z⟩:=bb hq
 cases hC.symm.trans Q9
 obtain ⟨f',hf,z⟩:=bb z
 obtain ⟨Uh,X1,z⟩:=bb z
 obtain ⟨b',hb,z⟩:=bm z
 cases z
 obtain ⟨of,kD,hd⟩:=bb X1
 have i:=LB k (mq hb) (m6 c.Y0 hq)
 exact ⟨C,hC,⟨_,ho.trans q⟩,beq_iff_eq.mp (bl (bl (bl (bl (bl h))))),beq_iff_eq.mp (br (bl (bl (bl (bl h))))),beq_iff_eq.mp (br (bl (bl (bl h)))),br (bl (bl h)),c.ei,c.ex,f,fd,of,r8 hf,i.2,kD,vg hd,i.1⟩
end
end
section
open PySem PySem.W PySem.Spec PySem.Calls PyProof.Rows
theorem T2 {prog:Program} {w:World} {K:Frag} {s:Shared} {fv:Value} {p:Program} {loose:List Str} {mg mb:Str->Option Value} (X:K.In s.heap) (T0:TopRead p loose mg mb s.heap) (UF:mg "law"=some fv) {x:Addr} {vs:List Value} {is:List Int} (hL:s.heap.IsList x vs.toArray) (hI:IntsAre vs is) (hn:¬(63:Int) < (is.length:Int)) (c:Ck K) {T:Result->Shared->Prop}
  (hT:∀h' t,(∀x o,s.heap.get? x=some o->h'.get? x=some o)->T (.ok (.ret (.bool true))) {s with heap:=h',toks:=t}):codeAny (model prog w) callerA (.call fv ⟨[.ref x],[]⟩) T s:=
 c.X5.elim λC tf=>De (C:=C) ⟨⟨X,(jW _ _ _ _ T0),c.ZO⟩,tf,c.X7,c.X6,c.XI⟩ T0 UF hL hI hn hT
end
end Pap
end
section
open PySem PySem.W PyProof.Rows
set_option maxHeartbeats 0
set_option maxRecDepth 100000
namespace Pap.fin
theorem tw9695275355018436368:1=1:=rfl
theorem tw3318810515965199918:1=1:=rfl
theorem tw2828253546248196366:1=1:=rfl
theorem tw1304919047998710156:1=1:=rfl
theorem tw4676221688999973648:1=1:=rfl
theorem tw11646228326768256970:1=1:=rfl
theorem tw10730931237466215173:1=1:=rfl
theorem tw6719896287512982022:1=1:=rfl
theorem tw14355313675880894550:1=1:=rfl
theorem tw2266928095905975519:1=1:=rfl
theorem tw1738482661738863144:1=1:=rfl
theorem tw1543401638000245715:1=1:=rfl
theorem tw6927720252443566609:1=1:=rfl
theorem tw7123905682749845299:1=1:=rfl
theorem tw5072009820891053793:1=1:=rfl
theorem tw17465834147315757446:1=1:=rfl
theorem tw2287854386542016584:1=1:=rfl
theorem tw14438298595796604073:1=1:=rfl
theorem tw15495430848351714352:1=1:=rfl
theorem tw13083862593317471232:1=1:=rfl
theorem tw1645376774968930367:1=1:=rfl
theorem tw11226085783737010133:1=1:=rfl
theorem tw1881486469846962555:1=1:=rfl
theorem tw3450089855536972795:1=1:=rfl
theorem tw6056538288666688544:1=1:=rfl
theorem tw10990249833541855502:1=1:=rfl
theorem tw14914668983449393353:1=1:=rfl
theorem tw3031901362647919336:1=1:=rfl
theorem tw11374996795866240183:1=1:=rfl
theorem tw9716709662387132680:1=1:=rfl
theorem tw8176467298085926911:1=1:=rfl
theorem tw5392738165788961862:1=1:=rfl
theorem tw5435424036599653379:1=1:=rfl
theorem tw27414203099909413:1=1:=rfl
theorem tw13040395051430077890:1=1:=rfl
theorem tw17176693612651085999:1=1:=rfl
theorem tw14610838126326696597:1=1:=rfl
theorem tw16800737958434993670:1=1:=rfl
theorem tw16009782409353226917:1=1:=rfl
theorem tw10270444424783881881:1=1:=rfl
theorem tw15346564962164227889:1=1:=rfl
theorem tw16661159993262533808:1=1:=rfl
theorem tw10156765674022295680:1=1:=rfl
theorem tw141838106155801541:1=1:=rfl
theorem tw6635906167774461170:1=1:=rfl
theorem tw11296880676894334661:1=1:=rfl
theorem tw5512334914577109596:1=1:=rfl
theorem tw12330948465164642398:1=1:=rfl
theorem tw8955205000027185309:1=1:=rfl
theorem tw13387939649888989196:1=1:=rfl
theorem tw18338953908908402973:1=1:=rfl
theorem tw13869184109575890669:1=1:=rfl
theorem tw9947965557009934792:1=1:=rfl
theorem tw18437181476447640406:1=1:=rfl
theorem tw7441625126661350022:1=1:=rfl
theorem tw17477131928521094054:1=1:=rfl
theorem tw1159651728003769618:1=1:=rfl
theorem tw2760986641388539102:1=1:=rfl
theorem tw17977113780785157984:1=1:=rfl
theorem tw621282596009020683:1=1:=rfl
theorem tw4226120633825271853:1=1:=rfl
theorem tw9087363926205558041:1=1:=rfl
theorem tw16055046609053990466:1=1:=rfl
theorem tw14014289940549488164:1=1:=rfl
theorem tw14703562710342927086:1=1:=rfl
theorem tw7409080530694696218:1=1:=rfl
theorem tw7738211250823284964:1=1:=rfl
theorem tw17927147308923805429:1=1:=rfl
theorem tw4119955764633455101:1=1:=rfl
theorem tw11500739630985332246:1=1:=rfl
theorem tw8031377067922961459:1=1:=rfl
theorem tw13184897389529707966:1=1:=rfl
theorem tw9195334640836780083:1=1:=rfl
theorem tw8012594955059651173:1=1:=rfl
theorem tw3896138657314083942:1=1:=rfl
theorem tw17030925274963215629:1=1:=rfl
theorem tw13427898537240727504:1=1:=rfl
theorem tw8001557842167652128:1=1:=rfl
theorem tw3098759578705174909:1=1:=rfl
theorem tw4561376344550496502:1=1:=rfl
theorem tw3913179073072556532:1=1:=rfl
theorem tw6013228225557664178:1=1:=rfl
theorem tw7998225069892756852:1=1:=rfl
theorem tw18112438683281460470:1=1:=rfl
theorem tw13027214536826040114:1=1:=rfl
theorem tw7405934345485553453:1=1:=rfl
theorem tw339015044799328017:1=1:=rfl
theorem tw7448159539394552518:1=1:=rfl
theorem tw16969747123153898602:1=1:=rfl
theorem tw2820683480186554311:1=1:=rfl
theorem tw17122849960152093611:1=1:=rfl
theorem tw5698878355681510578:1=1:=rfl
theorem tw8769472253231076995:1=1:=rfl
theorem tw760566773617164441:1=1:=rfl
theorem tw8881812962754537348:1=1:=rfl
theorem tw8908650291481646121:1=1:=rfl
theorem tw7004647073542764185:1=1:=rfl
theorem tw137323231907915361:1=1:=rfl
theorem tw6814070224073834300:1=1:=rfl
theorem tw2504393145582041279:1=1:=rfl
theorem tw11267925244502394619:1=1:=rfl
theorem tw2987674384506817340:1=1:=rfl
theorem tw4405474675045398039:1=1:=rfl
theorem tw671398132201673997:1=1:=rfl
theorem tw6918679738762888319:1=1:=rfl
theorem tw993006109100099952:1=1:=rfl
theorem tw2398755478579040312:1=1:=rfl
theorem tw14312209670818826690:1=1:=rfl
theorem tw979999450198251789:1=1:=rfl
theorem tw1564996536616486766:1=1:=rfl
theorem tw16447862019122934325:1=1:=rfl
theorem tw6657474147897908015:1=1:=rfl
theorem tw12234894576566488211:1=1:=rfl
theorem tw17365942796177336256:1=1:=rfl
theorem tw11197433636842577998:1=1:=rfl
theorem tw11665091427209372166:1=1:=rfl
theorem tw604559480645801678:1=1:=rfl
theorem tw8426794849174197914:1=1:=rfl
theorem tw12161306841209469401:1=1:=rfl
theorem tw12760575786470522407:1=1:=rfl
theorem tw16655059821853270284:1=1:=rfl
theorem tw55997693366607569:1=1:=rfl
theorem tw513672281576428215:1=1:=rfl
theorem tw9229527280370847708:1=1:=rfl
theorem tw6226227146145864666:1=1:=rfl
theorem tw1144732387370976272:1=1:=rfl
theorem tw11962568565347128292:1=1:=rfl
theorem tw17060087193599362574:1=1:=rfl
theorem tw2415269165359949941:1=1:=rfl
theorem tw18017171203464817738:1=1:=rfl
theorem tw6631102001549490949:1=1:=rfl
theorem tw18092533588851244800:1=1:=rfl
theorem tw10837653104531852358:1=1:=rfl
theorem tw10899204960962866474:1=1:=rfl
theorem tw17489493189444233063:1=1:=rfl
theorem tw15557563640814109959:1=1:=rfl
theorem tw18124245122530899065:1=1:=rfl
theorem tw5227589060893360942:1=1:=rfl
theorem tw10158121681191180894:1=1:=rfl
theorem tw8066052917303948934:1=1:=rfl
theorem tw860665956120111832:1=1:=rfl
theorem tw18382424193444924589:1=1:=rfl
theorem tw12661615928862166536:1=1:=rfl
theorem tw2888066112305921478:1=1:=rfl
theorem tw5995503230019489259:1=1:=rfl
theorem tw12297380438652088913:1=1:=rfl
theorem tw6481112466731219543:1=1:=rfl
theorem tw4871554709667819916:1=1:=rfl
theorem tw290030549225333063:1=1:=rfl
theorem tw4654403421408293113:1=1:=rfl
theorem tw14756533383654466560:1=1:=rfl
theorem tw6430806500187519397:1=1:=rfl
theorem tw12869774976516447339:1=1:=rfl
theorem tw9927350525065629154:1=1:=rfl
theorem tw11921669402098661494:1=1:=rfl
theorem tw10855605959490421205:1=1:=rfl
theorem tw2303872618854691946:1=1:=rfl
theorem tw12687788707973724759:1=1:=rfl
theorem tw1390139651058452609:1=1:=rfl
theorem tw12244359213547133347:1=1:=rfl
theorem tw12747943759021300945:1=1:=rfl
theorem tw8940350697159487529:1=1:=rfl
theorem tw17231177207695561543:1=1:=rfl
theorem tw18079244677638898920:1=1:=rfl
theorem tw8232006521672695008:1=1:=rfl
theorem tw17651136271527779556:1=1:=rfl
theorem tw6793739613422958103:1=1:=rfl
theorem tw4530505952854334932:1=1:=rfl
theorem tw3660601821381140131:1=1:=rfl
theorem tw1926617507074567458:1=1:=rfl
theorem tw16936629067177761560:1=1:=rfl
theorem tw18117658668599382281:1=1:=rfl
theorem tw17076193291765527665:1=1:=rfl
theorem tw15675778835946388250:1=1:=rfl
theorem tw3043238352944096034:1=1:=rfl
theorem tw2401033060658371350:1=1:=rfl
theorem tw10043997406582706646:1=1:=rfl
theorem tw10311072705556810198:1=1:=rfl
theorem tw1411566242251800682:1=1:=rfl
theorem tw16293754471931725631:1=1:=rfl
theorem tw7904581988597538642:1=1:=rfl
theorem tw11638463925177625658:1=1:=rfl
theorem tw1987591449187396259:1=1:=rfl
theorem tw6389163880000654562:1=1:=rfl
theorem tw3420780375737649896:1=1:=rfl
theorem tw1523121701319261804:1=1:=rfl
theorem tw13727153345968624053:1=1:=rfl
theorem tw2813943923630370497:1=1:=rfl
theorem tw14185522669913446213:1=1:=rfl
theorem tw5457399303292242193:1=1:=rfl
theorem tw10652451559360961320:1=1:=rfl
theorem tw9169615500287789285:1=1:=rfl
theorem tw7625659572397642469:1=1:=rfl
theorem tw7173876568310625589:1=1:=rfl
theorem tw7433366166369628676:1=1:=rfl
theorem tw2746927624897431130:1=1:=rfl
theorem tw4577871491492261351:1=1:=rfl
theorem tw16129773830440437167:1=1:=rfl
theorem tw7886969389392879491:1=1:=rfl
theorem tw13025915956221097890:1=1:=rfl
theorem tw613421797848664715:1=1:=rfl
theorem tw110725440004213896:1=1:=rfl
theorem tw1975087693068507511:1=1:=rfl
theorem tw3752967378744946964:1=1:=rfl
theorem tw12741347639969446403:1=1:=rfl
theorem tw12283037328042676217:1=1:=rfl
theorem tw7283869405924141228:1=1:=rfl
theorem tw3269103912839092450:1=1:=rfl
theorem tw17789546001490956465:1=1:=rfl
theorem tw2109679269813253446:1=1:=rfl
theorem tw17931984241969078945:1=1:=rfl
theorem tw3322941064433318310:1=1:=rfl
theorem tw4150762011340707601:1=1:=rfl
theorem tw11515904361469859497:1=1:=rfl
theorem tw1229844102579767687:1=1:=rfl
theorem tw9832099017085612572:1=1:=rfl
theorem tw3642553305544344290:1=1:=rfl
theorem tw9237706157501497789:1=1:=rfl
theorem tw13137062210109526991:1=1:=rfl
theorem tw18181896263144519708:1=1:=rfl
theorem tw15731014213240009753:1=1:=rfl
theorem tw18378268354283964837:1=1:=rfl
theorem tw8164059099528335413:1=1:=rfl
theorem tw14352352012799768460:1=1:=rfl
theorem tw2724149976759611827:1=1:=rfl
theorem tw16238816863705014787:1=1:=rfl
theorem tw6512698146048075765:1=1:=rfl
theorem tw2802587225087175421:1=1:=rfl
theorem tw12962265667184095071:1=1:=rfl
theorem tw16908178228315418495:1=1:=rfl
theorem tw1797503553891403946:1=1:=rfl
theorem tw13225478758673222178:1=1:=rfl
theorem tw13030998772366732911:1=1:=rfl
theorem tw6102566864222108194:1=1:=rfl
theorem tw11410058213864239724:1=1:=rfl
theorem tw3855377427690403490:1=1:=rfl
theorem tw17855535490879928842:1=1:=rfl
theorem tw17908892265687914157:1=1:=rfl
theorem tw7502399367421478828:1=1:=rfl
theorem tw7805309740590971309:1=1:=rfl
theorem tw306671591250890533:1=1:=rfl
theorem tw6177384747536750243:1=1:=rfl
theorem tw2264134634261855403:1=1:=rfl
theorem tw8824255187567986598:1=1:=rfl
theorem tw9892529209237405430:1=1:=rfl
theorem tw5947398353601382179:1=1:=rfl
theorem tw290931160260478119:1=1:=rfl
theorem tw5942053139271732280:1=1:=rfl
theorem tw9472893501868683998:1=1:=rfl
theorem tw11311345288841969556:1=1:=rfl
theorem tw17156175177845077771:1=1:=rfl
theorem tw15535401327757501453:1=1:=rfl
theorem tw5585047188793858546:1=1:=rfl
theorem tw5908212597873331199:1=1:=rfl
theorem tw11643052410545419718:1=1:=rfl
theorem tw8542026053042190307:1=1:=rfl
theorem tw17100416221031884494:1=1:=rfl
theorem tw11877838701006369050:1=1:=rfl
theorem tw2202049442981707447:1=1:=rfl
theorem tw13624699082822753988:1=1:=rfl
theorem tw7357129033469402921:1=1:=rfl
theorem tw13787565955074446528:1=1:=rfl
theorem tw15007118680930682425:1=1:=rfl
theorem tw10777247117923291003:1=1:=rfl
theorem tw17976631705205836536:1=1:=rfl
theorem tw1962245590799492657:1=1:=rfl
theorem tw17507073116326167536:1=1:=rfl
theorem tw17724770286404063569:1=1:=rfl
theorem tw629708450219042484:1=1:=rfl
theorem tw8392815048060769754:1=1:=rfl
theorem tw8260499159455267745:1=1:=rfl
theorem tw54613938619894466:1=1:=rfl
theorem tw16689404794469001087:1=1:=rfl
theorem tw15751109791931489250:1=1:=rfl
theorem tw10284167245193794124:1=1:=rfl
theorem tw7829928096160363211:1=1:=rfl
theorem tw3557097272680214846:1=1:=rfl
theorem tw936419820633671543:1=1:=rfl
theorem tw17898956384174949602:1=1:=rfl
theorem tw10507927254946411232:1=1:=rfl
theorem tw14896927688472266423:1=1:=rfl
theorem tw14422131350415166936:1=1:=rfl
theorem tw4599562155368369793:1=1:=rfl
theorem tw18257711064081918391:1=1:=rfl
theorem tw9151764498246645327:1=1:=rfl
theorem tw6465032977599630785:1=1:=rfl
theorem tw3865593519553409903:1=1:=rfl
theorem tw7492318378792872054:1=1:=rfl
theorem tw4099919222674158531:1=1:=rfl
theorem tw13633666176087028499:1=1:=rfl
theorem tw4653150936109592738:1=1:=rfl
theorem tw11457659965500174851:1=1:=rfl
theorem tw2618260629054931166:1=1:=rfl
theorem tw5723445237660313880:1=1:=rfl
theorem tw4239718633912934805:1=1:=rfl
theorem tw5956774611277203648:1=1:=rfl
theorem tw16498069819060428083:1=1:=rfl
theorem tw2009681640505075933:1=1:=rfl
theorem tw8048007970033668974:1=1:=rfl
theorem tw11176841077683950696:1=1:=rfl
theorem tw10852617974729059063:1=1:=rfl
theorem tw13707735401426009962:1=1:=rfl
theorem tw11319123543296062716:1=1:=rfl
theorem tw17273980770130561658:1=1:=rfl
theorem tw16509796967743382698:1=1:=rfl
theorem tw3413882725291946134:1=1:=rfl
theorem tw5429592793209779562:1=1:=rfl
theorem tw14405687652401087586:1=1:=rfl
theorem tw11714515205522402693:1=1:=rfl
theorem tw15553179490299152347:1=1:=rfl
theorem tw1737427544065714606:1=1:=rfl
theorem tw1415895391165268285:1=1:=rfl
theorem tw9361801644853028314:1=1:=rfl
theorem tw8559650757600500976:1=1:=rfl
theorem tw6828587078603696914:1=1:=rfl
theorem tw1618174991655127843:1=1:=rfl
theorem tw3498084960979882435:1=1:=rfl
theorem tw14237969843946846908:1=1:=rfl
theorem tw5724106552614133754:1=1:=rfl
theorem tw7344944612119687631:1=1:=rfl
theorem tw3616153449916027901:1=1:=rfl
theorem tw9405056172271033727:1=1:=rfl
theorem tw4015905709062460328:1=1:=rfl
theorem tw1506619778720296117:1=1:=rfl
theorem tw16165049953823908445:1=1:=rfl
theorem tw17804602132467381979:1=1:=rfl
theorem tw18122995701863333288:1=1:=rfl
theorem tw14804521312881155113:1=1:=rfl
theorem tw11879106443308470427:1=1:=rfl
theorem tw9949213018226525441:1=1:=rfl
theorem tw12882224555452591242:1=1:=rfl
theorem tw17259180596457833230:1=1:=rfl
theorem tw12822872915369044775:1=1:=rfl
theorem tw11847812474526490749:1=1:=rfl
theorem tw4193469892611255525:1=1:=rfl
theorem tw14591332526928722259:1=1:=rfl
theorem tw16624206679317505510:1=1:=rfl
theorem tw17480155918207775438:1=1:=rfl
theorem tw5249399842081244915:1=1:=rfl
theorem tw12961568185395648859:1=1:=rfl
theorem tw13419531714041611541:1=1:=rfl
theorem tw16908881649697809750:1=1:=rfl
theorem tw3406974959802647726:1=1:=rfl
theorem tw15654207282310068873:1=1:=rfl
theorem tw9714073237561179797:1=1:=rfl
theorem tw16085439845292908397:1=1:=rfl
theorem tw14599612878033659965:1=1:=rfl
theorem tw12276849965438056214:1=1:=rfl
theorem tw6643310229053266654:1=1:=rfl
theorem tw15288864001078186157:1=1:=rfl
theorem tw8357130778283221925:1=1:=rfl
theorem tw8818698741056297518:1=1:=rfl
theorem tw2099244642393164504:1=1:=rfl
theorem tw8874440060878691293:1=1:=rfl
theorem tw16139122698746032608:1=1:=rfl
theorem tw8422577085512427816:1=1:=rfl
theorem tw5173000933645155965:1=1:=rfl
theorem tw5371986790930515651:1=1:=rfl
theorem tw18000046461998091044:1=1:=rfl
theorem tw15376371604582237230:1=1:=rfl
theorem tw4554707938550628516:1=1:=rfl
theorem tw14517138513194533466:1=1:=rfl
theorem tw17674880172393344258:1=1:=rfl
theorem tw14463925162515178067:1=1:=rfl
theorem tw6705577593639673307:1=1:=rfl
theorem tw13940747613000913951:1=1:=rfl
theorem tw13825907257235666729:1=1:=rfl
theorem tw5234261930209570738:1=1:=rfl
theorem tw17549140864355035731:1=1:=rfl
theorem tw5146139272178641222:1=1:=rfl
theorem tw6249272648026291374:1=1:=rfl
theorem tw7982363028033900309:1=1:=rfl
theorem tw17940659974339803557:1=1:=rfl
theorem tw3143287331350757461:1=1:=rfl
theorem tw4980643916430086714:1=1:=rfl
theorem tw11833327988718213251:1=1:=rfl
theorem tw14058951790392204456:1=1:=rfl
theorem tw8171558597439210380:1=1:=rfl
theorem tw12988853697426353311:1=1:=rfl
theorem tw2306139274946220015:1=1:=rfl
theorem tw11855634948350003252:1=1:=rfl
theorem tw7400943402036556492:1=1:=rfl
theorem tw10450798620960960584:1=1:=rfl
theorem tw9274910065230579988:1=1:=rfl
theorem tw6481132656625784777:1=1:=rfl
theorem tw1560698908582715442:1=1:=rfl
theorem tw5969570917953316798:1=1:=rfl
theorem tw12271209501191495906:1=1:=rfl
theorem tw14355346872965388379:1=1:=rfl
theorem tw2758454620728433368:1=1:=rfl
theorem tw3595457321329668312:1=1:=rfl
theorem tw2386022343528696137:1=1:=rfl
theorem tw11130772289233094427:1=1:=rfl
theorem tw2679295191451204820:1=1:=rfl
theorem tw17007455184696106368:1=1:=rfl
theorem tw8981561145888679007:1=1:=rfl
theorem tw4708015959310386604:1=1:=rfl
theorem tw3255145112246013432:1=1:=rfl
theorem tw13949646824974732223:1=1:=rfl
theorem tw13539568650231126911:1=1:=rfl
theorem tw13612249836614903086:1=1:=rfl
theorem tw5212483189327821675:1=1:=rfl
theorem tw8423564843046096386:1=1:=rfl
theorem tw11686913775644763588:1=1:=rfl
theorem tw10034917761220543036:1=1:=rfl
theorem tw15331690438945646839:1=1:=rfl
theorem tw11113194249817279944:1=1:=rfl
theorem tw5966071317987787003:1=1:=rfl
theorem tw9134839656145780405:1=1:=rfl
theorem tw15874527630878325041:1=1:=rfl
theorem tw6969873560935082185:1=1:=rfl
theorem tw4705068050595308505:1=1:=rfl
theorem tw14244124938438447400:1=1:=rfl
theorem tw13766265724843359846:1=1:=rfl
theorem tw15312037798768110413:1=1:=rfl
theorem tw14080979002374587346:1=1:=rfl
theorem tw15682680767057037251:1=1:=rfl
theorem tw3761297564262873919:1=1:=rfl
theorem tw11700583590263432938:1=1:=rfl
theorem tw10472358533803760296:1=1:=rfl
theorem tw10000574466288371078:1=1:=rfl
theorem tw8089961316878868880:1=1:=rfl
theorem tw3641672271227983245:1=1:=rfl
theorem tw6876487634442958987:1=1:=rfl
theorem tw6621455017992259087:1=1:=rfl
theorem tw16784808347926770067:1=1:=rfl
theorem tw17450270739868796562:1=1:=rfl
theorem tw13588317812964143215:1=1:=rfl
theorem tw7642591386317294007:1=1:=rfl
theorem tw9052233641926494141:1=1:=rfl
theorem tw4710135313328973632:1=1:=rfl
theorem tw9463722108556136206:1=1:=rfl
theorem tw15596663459591492218:1=1:=rfl
theorem tw5078176838171490812:1=1:=rfl
theorem tw13405164576202050619:1=1:=rfl
theorem tw1587036620568013903:1=1:=rfl
theorem tw662140987626563283:1=1:=rfl
theorem tw16552068805834424691:1=1:=rfl
theorem tw3983378366603309956:1=1:=rfl
theorem tw16366256122416703634:1=1:=rfl
theorem tw5941250144400834676:1=1:=rfl
theorem tw863547559894689888:1=1:=rfl
theorem tw9406899557349568525:1=1:=rfl
theorem tw5926542346923703809:1=1:=rfl
theorem tw13248810052943723764:1=1:=rfl
theorem tw15485391779340382820:1=1:=rfl
theorem tw8858940932418632765:1=1:=rfl
theorem tw17772691725467819810:1=1:=rfl
theorem tw9087807866262887772:1=1:=rfl
theorem tw6473246104736917787:1=1:=rfl
theorem tw13269665884935507068:1=1:=rfl
theorem tw7986454598141894788:1=1:=rfl
theorem tw4479901224857288925:1=1:=rfl
theorem tw12653842467726428844:1=1:=rfl
theorem tw2829263324803298511:1=1:=rfl
theorem tw15932172938500610604:1=1:=rfl
theorem tw10300950796359276439:1=1:=rfl
theorem tw17376210622388799076:1=1:=rfl
theorem tw40563763180432029:1=1:=rfl
theorem tw10100053084324859:1=1:=rfl
theorem tw13128398110364541426:1=1:=rfl
theorem tw1996521133685327902:1=1:=rfl
theorem tw3378960954291923859:1=1:=rfl
theorem tw5234846249523465929:1=1:=rfl
theorem tw6192605850484740352:1=1:=rfl
theorem tw14329536966277637330:1=1:=rfl
theorem tw16551658461366835260:1=1:=rfl
theorem tw967220945334476426:1=1:=rfl
theorem tw9935907992024078942:1=1:=rfl
theorem tw12899602608342313788:1=1:=rfl
theorem tw12880331639739652772:1=1:=rfl
theorem tw15074099448657504445:1=1:=rfl
theorem tw17343571388797141324:1=1:=rfl
theorem tw13031793934492790284:1=1:=rfl
theorem tw14243787229902897492:1=1:=rfl
theorem tw12556964585993321234:1=1:=rfl
theorem tw11209189801298176051:1=1:=rfl
theorem tw530623702194718870:1=1:=rfl
theorem tw7310148079340905258:1=1:=rfl
theorem tw3881226693526167131:1=1:=rfl
theorem tw17925004470451873485:1=1:=rfl
theorem tw440006519510264379:1=1:=rfl
theorem tw6477043434471767727:1=1:=rfl
theorem tw15818646967848296213:1=1:=rfl
theorem tw2047477130265425924:1=1:=rfl
theorem tw3146064583971209364:1=1:=rfl
theorem tw749114998961153364:1=1:=rfl
theorem tw10310340229168368851:1=1:=rfl
theorem tw11437455671959880089:1=1:=rfl
theorem tw3739374666176397556:1=1:=rfl
theorem tw17118624483947171671:1=1:=rfl
theorem tw8414245765464496200:1=1:=rfl
theorem tw1669415427756483579:1=1:=rfl
theorem tw16025002539112209462:1=1:=rfl
theorem tw15457709422686905721:1=1:=rfl
theorem tw14172631390100659159:1=1:=rfl
theorem tw17399355178203681644:1=1:=rfl
theorem tw370664828100452605:1=1:=rfl
theorem tw17459756209226166578:1=1:=rfl
theorem tw12317134025675641104:1=1:=rfl
theorem tw2456136515197132909:1=1:=rfl
theorem tw16273786506695553920:1=1:=rfl
theorem tw17136465093085201077:1=1:=rfl
theorem tw5528040112148743811:1=1:=rfl
theorem tw15854158296166799039:1=1:=rfl
theorem tw13625575437717174719:1=1:=rfl
theorem tw5203996303861339327:1=1:=rfl
theorem tw3029048525831379704:1=1:=rfl
theorem tw8553511254305668329:1=1:=rfl
theorem tw6607691764473923620:1=1:=rfl
theorem tw2742156123886543114:1=1:=rfl
theorem tw4996842196398060791:1=1:=rfl
theorem tw15389095029292491906:1=1:=rfl
theorem tw3441930354368400543:1=1:=rfl
theorem tw13117266776763303888:1=1:=rfl
theorem tw14540046871881542791:1=1:=rfl
theorem tw11749847329826188822:1=1:=rfl
theorem tw4527485897921800420:1=1:=rfl
theorem tw18132026714233657563:1=1:=rfl
theorem tw8847136864189645871:1=1:=rfl
theorem tw3291180824334161424:1=1:=rfl
theorem tw6983728645938507801:1=1:=rfl
theorem tw9055571304176666080:1=1:=rfl
theorem tw16305956534498244574:1=1:=rfl
theorem tw2723977189385106578:1=1:=rfl
theorem tw16999072686567417731:1=1:=rfl
theorem tw18124917073333770185:1=1:=rfl
theorem tw4486119852805908929:1=1:=rfl
theorem tw9825910363157978533:1=1:=rfl
theorem tw9429550850788391130:1=1:=rfl
theorem tw10009785603572811079:1=1:=rfl
theorem tw6439272759041192180:1=1:=rfl
theorem tw14094114760396082398:1=1:=rfl
theorem tw11243157844164723140:1=1:=rfl
theorem tw2297699173608904016:1=1:=rfl
theorem tw11001442242090079311:1=1:=rfl
theorem tw12143070524211530882:1=1:=rfl
theorem tw7269632803992196128:1=1:=rfl
theorem tw15746868460518508267:1=1:=rfl
theorem tw13053984464463911924:1=1:=rfl
theorem tw12304518365487566369:1=1:=rfl
theorem tw9001060280460403442:1=1:=rfl
theorem tw17341807022555470399:1=1:=rfl
theorem tw16384917633272390078:1=1:=rfl
theorem tw10337349972648831455:1=1:=rfl
theorem tw1619484439874872661:1=1:=rfl
theorem tw8884137227105720189:1=1:=rfl
theorem tw10900264803005127740:1=1:=rfl
theorem tw1021088001980326734:1=1:=rfl
theorem tw11480892154240669324:1=1:=rfl
theorem tw3141850385419033278:1=1:=rfl
theorem tw10455468773680371553:1=1:=rfl
theorem tw5572896212335152108:1=1:=rfl
theorem tw7122743177937008389:1=1:=rfl
theorem tw15968237694776178886:1=1:=rfl
theorem tw10277944167651591218:1=1:=rfl
theorem tw8697243794179516327:1=1:=rfl
theorem tw1574404047314419704:1=1:=rfl
theorem tw11227088056121750642:1=1:=rfl
theorem tw612779213391240728:1=1:=rfl
theorem tw7945819732334317870:1=1:=rfl
theorem tw11354665584481884822:1=1:=rfl
theorem tw15210867780949142725:1=1:=rfl
theorem tw16030501803261475840:1=1:=rfl
theorem tw6390086594577862679:1=1:=rfl
theorem tw7603568268613568811:1=1:=rfl
theorem tw12683012006269272734:1=1:=rfl
theorem tw4159430746669910425:1=1:=rfl
theorem tw4085659634592842298:1=1:=rfl
theorem tw12977750083238254618:1=1:=rfl
theorem tw1539367665661567732:1=1:=rfl
theorem tw11392875483089947227:1=1:=rfl
theorem tw16483294286918850520:1=1:=rfl
theorem tw4087613033821663628:1=1:=rfl
theorem tw9455876153594599261:1=1:=rfl
theorem tw16836148640270411085:1=1:=rfl
theorem tw13253229722959008332:1=1:=rfl
theorem tw15506014617561451358:1=1:=rfl
theorem tw11488367186132839531:1=1:=rfl
theorem tw6019475764444667008:1=1:=rfl
theorem tw5569664397923787814:1=1:=rfl
theorem tw15435640559831552101:1=1:=rfl
theorem tw2582891452302017710:1=1:=rfl
theorem tw12662078360142749162:1=1:=rfl
theorem tw9748380082500205451:1=1:=rfl
theorem tw1130305882294360522:1=1:=rfl
theorem tw4573534913375584941:1=1:=rfl
theorem tw5327577639428020307:1=1:=rfl
theorem tw5716694006671011136:1=1:=rfl
theorem tw1358029403749111844:1=1:=rfl
theorem tw8470141381871631014:1=1:=rfl
theorem tw591712642491615760:1=1:=rfl
theorem tw85605001427434434:1=1:=rfl
theorem tw18276837691980914352:1=1:=rfl
theorem tw8193884109740367745:1=1:=rfl
theorem tw17594998812223189672:1=1:=rfl
theorem tw12350314822701126219:1=1:=rfl
theorem tw13719996707133006324:1=1:=rfl
theorem tw17065511806369724541:1=1:=rfl
theorem tw14595063908479314235:1=1:=rfl
theorem tw7260896645263626593:1=1:=rfl
theorem tw3494836338155085218:1=1:=rfl
theorem tw13053874765049703840:1=1:=rfl
theorem tw3916964338413485841:1=1:=rfl
theorem tw10023259117186984885:1=1:=rfl
theorem tw5490798786967054800:1=1:=rfl
theorem tw2980256127393116957:1=1:=rfl
theorem tw15689489926937373191:1=1:=rfl
theorem tw16458623278624844953:1=1:=rfl
theorem tw9546091748988299009:1=1:=rfl
theorem tw4074937951995947629:1=1:=rfl
theorem tw13394084278300309748:1=1:=rfl
theorem tw12396392775890654443:1=1:=rfl
theorem tw17250843112558388350:1=1:=rfl
theorem tw9080793647632843064:1=1:=rfl
end Pap.fin
set_option Elab.async true in
theorem Pap.fin : PySem.Challenge.rw_nn0143_01.Holds := by
  (w_on; o_law; k_head; (case hw => w_witness2))
  k_fill
  intro w s₀ s₁ mg mb G Y fa o pm cd doc dV kV ho hd hcd hD hmg hg args vals as hpre hlay hrd hwl hlo
  have KX := kIn_of Y
  refine Ground.open G ?_
  intro T B D TE TW
  wrow_args hpre hlay hrd hwl hlo
  clear hcd hD hd
  refine enter_call ?_
  refine Pap.T2 KX (topRead_of T) hmg (by assumption) (by assumption) (by assumption) ?_ fun h' t hb => ?_
  · exact ⟨by kernel_rfl, by kernel_rfl, by kernel_rfl, by kernel_rfl, by kernel_rfl, by kernel_rfl, by kernel_rfl, by kernel_rfl, by kernel_rfl, by kernel_rfl, by kernel_rfl, by kernel_rfl, by kernel_rfl, by kernel_rfl, by kernel_rfl, by kernel_rfl, by kernel_rfl, by kernel_rfl, by kernel_rfl, by kernel_rfl, by kernel_rfl, by kernel_rfl, by kernel_rfl, by kernel_rfl, by kernel_rfl, by kernel_rfl⟩
  refine ⟨.inl ⟨.bool true, _, _, rfl, fun _ => rfl, .bool _, ?_, ?_⟩, .of_keep hb, rfl, .of_eq hg⟩
  · first | rfl | wrow_post
  · intro _; exact ⟨.nil, nofun⟩
end
theorem PySem.Challenge.cw_nn0143_01_holds : PySem.Challenge.rw_nn0143_01.Holds :=
Pap.fin
