import PyProof.Rows.All
import Wide.All
import OpenK.AllK
import Wide.FinOn
import PyProof.AttrMissHeap
import Lean
import PySem.Challenge.RW_pf0191_01
set_option Elab.async false
set_option tactic.hygienic false
set_option linter.all false
set_option maxRecDepth 100000
set_option genSizeOf false
set_option genInjectivity false
open PySem
namespace Mine
section
variable{fq α1 α2 α3 qJ yR MD PN:Sort _}{P:Prop}
theorem a9{A B:Prop}(h:A∧B)(k:A→B→P):P:=k h.1 h.2
theorem bR{A B C:Prop}(h:A∧B∧C)(k:A→B→C→P):P:=k h.1 h.2.1 h.2.2
theorem lR{A B C D:Prop}(h:A∧B∧C∧D)(k:A→B→C→D→P):P:=k h.1 h.2.1 h.2.2.1 h.2.2.2
theorem HK{A B C D E:Prop}(h:A∧B∧C∧D∧E)(k:A→B→C→D→E→P):P:=k h.1 h.2.1 h.2.2.1 h.2.2.2.1 h.2.2.2.2
theorem HL{A B C D E F:Prop}(h:A∧B∧C∧D∧E∧F)(k:A→B→C→D→E→F→P):P:=k h.1 h.2.1 h.2.2.1 h.2.2.2.1 h.2.2.2.2.1 h.2.2.2.2.2
theorem HM{A B C D E F G:Prop}(h:A∧B∧C∧D∧E∧F∧G)(k:A→B→C→D→E→F→G→P):P:=k h.1 h.2.1 h.2.2.1 h.2.2.2.1 h.2.2.2.2.1 h.2.2.2.2.2.1 h.2.2.2.2.2.2
theorem Ol{A B C D E F G H:Prop}(h:A∧B∧C∧D∧E∧F∧G∧H)(k:A→B→C→D→E→F→G→H→P):P:=k h.1 h.2.1 h.2.2.1 h.2.2.2.1 h.2.2.2.2.1 h.2.2.2.2.2.1 h.2.2.2.2.2.2.1 h.2.2.2.2.2.2.2
theorem aT{A:fq→Prop}(h:∃x,A x)(k:∀x,A x→P):P:=h.elim k
theorem ay{A B:fq→Prop}(h:∃x,A x∧B x)(k:∀x,A x→B x→P):P:=h.elim λx h=>a9 h (k x)
theorem bG{A B C:fq→Prop}(h:∃x,A x∧B x∧C x)(k:∀x,A x→B x→C x→P):P:=h.elim λx h=>bR h (k x)
theorem rS{A B C D:fq→Prop}(h:∃x,A x∧B x∧C x∧D x)(k:∀x,A x→B x→C x→D x→P):P:=h.elim λx h=>lR h (k x)
theorem D5{A B C D E:fq→Prop}(h:∃x,A x∧B x∧C x∧D x∧E x)(k:∀x,A x→B x→C x→D x→E x→P):P:=h.elim λx h=>HK h (k x)
theorem MK{A B C D E F:fq→Prop}(h:∃x,A x∧B x∧C x∧D x∧E x∧F x)(k:∀x,A x→B x→C x→D x→E x→F x→P):P:=h.elim λx h=>HL h (k x)
theorem Om{A B C D E F G:fq→Prop}(h:∃x,A x∧B x∧C x∧D x∧E x∧F x∧G x)(k:∀x,A x→B x→C x→D x→E x→F x→G x→P):P:=h.elim λx h=>HM h (k x)
theorem Oo{A B C D E F G H:fq→Prop}(h:∃x,A x∧B x∧C x∧D x∧E x∧F x∧G x∧H x)(k:∀x,A x→B x→C x→D x→E x→F x→G x→H x→P):P:=h.elim λx h=>Ol h (k x)
theorem qM{A:fq→α1→Prop}(h:∃x y,A x y)(k:∀x y,A x y→P):P:=h.elim λx h=>aT h (k x)
theorem cJ{A B:fq→α1→Prop}(h:∃x y,A x y∧B x y)(k:∀x y,A x y→B x y→P):P:=h.elim λx h=>ay h (k x)
theorem fP{A B C:fq→α1→Prop}(h:∃x y,A x y∧B x y∧C x y)(k:∀x y,A x y→B x y→C x y→P):P:=h.elim λx h=>bG h (k x)
theorem D6{A B C D:fq→α1→Prop}(h:∃x y,A x y∧B x y∧C x y∧D x y)(k:∀x y,A x y→B x y→C x y→D x y→P):P:=h.elim λx h=>rS h (k x)
theorem yV{A B C D E:fq→α1→Prop}(h:∃x y,A x y∧B x y∧C x y∧D x y∧E x y)(k:∀x y,A x y→B x y→C x y→D x y→E x y→P):P:=h.elim λx h=>D5 h (k x)
theorem HN{A B C D E F:fq→α1→Prop}(h:∃x y,A x y∧B x y∧C x y∧D x y∧E x y∧F x y)(k:∀x y,A x y→B x y→C x y→D x y→E x y→F x y→P):P:=h.elim λx h=>MK h (k x)
theorem Oq{A B C D E F G:fq→α1→Prop}(h:∃x y,A x y∧B x y∧C x y∧D x y∧E x y∧F x y∧G x y)(k:∀x y,A x y→B x y→C x y→D x y→E x y→F x y→G x y→P):P:=h.elim λx h=>Om h (k x)
theorem ML{A B C D E F G H:fq→α1→Prop}(h:∃x y,A x y∧B x y∧C x y∧D x y∧E x y∧F x y∧G x y∧H x y)(k:∀x y,A x y→B x y→C x y→D x y→E x y→F x y→G x y→H x y→P):P:=h.elim λx h=>Oo h (k x)
theorem D7{A:fq→α1→α2→Prop}(h:∃x y z,A x y z)(k:∀x y z,A x y z→P):P:=h.elim λx h=>qM h (k x)
theorem jE{A B:fq→α1→α2→Prop}(h:∃x y z,A x y z∧B x y z)(k:∀x y z,A x y z→B x y z→P):P:=h.elim λx h=>cJ h (k x)
theorem fG{A B C:fq→α1→α2→Prop}(h:∃x y z,A x y z∧B x y z∧C x y z)(k:∀x y z,A x y z→B x y z→C x y z→P):P:=h.elim λx h=>fP h (k x)
theorem iL{A B C D:fq→α1→α2→Prop}(h:∃x y z,A x y z∧B x y z∧C x y z∧D x y z)(k:∀x y z,A x y z→B x y z→C x y z→D x y z→P):P:=h.elim λx h=>D6 h (k x)
theorem Ot{A B C D E:fq→α1→α2→Prop}(h:∃x y z,A x y z∧B x y z∧C x y z∧D x y z∧E x y z)(k:∀x y z,A x y z→B x y z→C x y z→D x y z→E x y z→P):P:=h.elim λx h=>yV h (k x)
theorem Ou{A B C D E F:fq→α1→α2→Prop}(h:∃x y z,A x y z∧B x y z∧C x y z∧D x y z∧E x y z∧F x y z)(k:∀x y z,A x y z→B x y z→C x y z→D x y z→E x y z→F x y z→P):P:=h.elim λx h=>HN h (k x)
theorem MM{A B C D E F G:fq→α1→α2→Prop}(h:∃x y z,A x y z∧B x y z∧C x y z∧D x y z∧E x y z∧F x y z∧G x y z)(k:∀x y z,A x y z→B x y z→C x y z→D x y z→E x y z→F x y z→G x y z→P):P:=h.elim λx h=>Oq h (k x)
theorem Ov{A B C D E F G H:fq→α1→α2→Prop}(h:∃x y z,A x y z∧B x y z∧C x y z∧D x y z∧E x y z∧F x y z∧G x y z∧H x y z)(k:∀x y z,A x y z→B x y z→C x y z→D x y z→E x y z→F x y z→G x y z→H x y z→P):P:=h.elim λx h=>ML h (k x)
theorem MN{A:fq→α1→α2→α3→Prop}(h:∃x y z w,A x y z w)(k:∀x y z w,A x y z w→P):P:=h.elim λx h=>D7 h (k x)
theorem tN{A B:fq→α1→α2→α3→Prop}(h:∃x y z w,A x y z w∧B x y z w)(k:∀x y z w,A x y z w→B x y z w→P):P:=h.elim λx h=>jE h (k x)
theorem rT{A B C:fq→α1→α2→α3→Prop}(h:∃x y z w,A x y z w∧B x y z w∧C x y z w)(k:∀x y z w,A x y z w→B x y z w→C x y z w→P):P:=h.elim λx h=>fG h (k x)
theorem vD{A B C D:fq→α1→α2→α3→Prop}(h:∃x y z w,A x y z w∧B x y z w∧C x y z w∧D x y z w)(k:∀x y z w,A x y z w→B x y z w→C x y z w→D x y z w→P):P:=h.elim λx h=>iL h (k x)
theorem D8{A B C D E:fq→α1→α2→α3→Prop}(h:∃x y z w,A x y z w∧B x y z w∧C x y z w∧D x y z w∧E x y z w)(k:∀x y z w,A x y z w→B x y z w→C x y z w→D x y z w→E x y z w→P):P:=h.elim λx h=>Ot h (k x)
theorem MP{A B C D E F G:fq→α1→α2→α3→Prop}(h:∃x y z w,A x y z w∧B x y z w∧C x y z w∧D x y z w∧E x y z w∧F x y z w∧G x y z w)(k:∀x y z w,A x y z w→B x y z w→C x y z w→D x y z w→E x y z w→F x y z w→G x y z w→P):P:=h.elim λx h=>MM h (k x)
theorem MQ{A B C D E F G H:fq→α1→α2→α3→Prop}(h:∃x y z w,A x y z w∧B x y z w∧C x y z w∧D x y z w∧E x y z w∧F x y z w∧G x y z w∧H x y z w)(k:∀x y z w,A x y z w→B x y z w→C x y z w→D x y z w→E x y z w→F x y z w→G x y z w→H x y z w→P):P:=h.elim λx h=>Ov h (k x)
theorem rU{A:fq→α1→α2→α3→qJ→Prop}(h:∃x y z w v,A x y z w v)(k:∀x y z w v,A x y z w v→P):P:=h.elim λx h=>MN h (k x)
theorem HO{A B:fq→α1→α2→α3→qJ→Prop}(h:∃x y z w v,A x y z w v∧B x y z w v)(k:∀x y z w v,A x y z w v→B x y z w v→P):P:=h.elim λx h=>tN h (k x)
theorem MR{A B C:fq→α1→α2→α3→qJ→Prop}(h:∃x y z w v,A x y z w v∧B x y z w v∧C x y z w v)(k:∀x y z w v,A x y z w v→B x y z w v→C x y z w v→P):P:=h.elim λx h=>rT h (k x)
theorem Ow{A B C D:fq→α1→α2→α3→qJ→Prop}(h:∃x y z w v,A x y z w v∧B x y z w v∧C x y z w v∧D x y z w v)(k:∀x y z w v,A x y z w v→B x y z w v→C x y z w v→D x y z w v→P):P:=h.elim λx h=>vD h (k x)
theorem Ox{A B C D E:fq→α1→α2→α3→qJ→Prop}(h:∃x y z w v,A x y z w v∧B x y z w v∧C x y z w v∧D x y z w v∧E x y z w v)(k:∀x y z w v,A x y z w v→B x y z w v→C x y z w v→D x y z w v→E x y z w v→P):P:=h.elim λx h=>D8 h (k x)
theorem Oz{A B C D E F G:fq→α1→α2→α3→qJ→Prop}(h:∃x y z w v,A x y z w v∧B x y z w v∧C x y z w v∧D x y z w v∧E x y z w v∧F x y z w v∧G x y z w v)(k:∀x y z w v,A x y z w v→B x y z w v→C x y z w v→D x y z w v→E x y z w v→F x y z w v→G x y z w v→P):P:=h.elim λx h=>MP h (k x)
theorem OA{A B C D E F G H:fq→α1→α2→α3→qJ→Prop}(h:∃x y z w v,A x y z w v∧B x y z w v∧C x y z w v∧D x y z w v∧E x y z w v∧F x y z w v∧G x y z w v∧H x y z w v)(k:∀x y z w v,A x y z w v→B x y z w v→C x y z w v→D x y z w v→E x y z w v→F x y z w v→G x y z w v→H x y z w v→P):P:=h.elim λx h=>MQ h (k x)
theorem OB{A:fq→α1→α2→α3→qJ→yR→Prop}(h:∃x y z w v t,A x y z w v t)(k:∀x y z w v t,A x y z w v t→P):P:=h.elim λx h=>rU h (k x)
theorem OC{A B C:fq→α1→α2→α3→qJ→yR→Prop}(h:∃x y z w v t,A x y z w v t∧B x y z w v t∧C x y z w v t)(k:∀x y z w v t,A x y z w v t→B x y z w v t→C x y z w v t→P):P:=h.elim λx h=>MR h (k x)
theorem OD{A B C D:fq→α1→α2→α3→qJ→yR→Prop}(h:∃x y z w v t,A x y z w v t∧B x y z w v t∧C x y z w v t∧D x y z w v t)(k:∀x y z w v t,A x y z w v t→B x y z w v t→C x y z w v t→D x y z w v t→P):P:=h.elim λx h=>Ow h (k x)
theorem OE{A B C D E F G:fq→α1→α2→α3→qJ→yR→Prop}(h:∃x y z w v t,A x y z w v t∧B x y z w v t∧C x y z w v t∧D x y z w v t∧E x y z w v t∧F x y z w v t∧G x y z w v t)(k:∀x y z w v t,A x y z w v t→B x y z w v t→C x y z w v t→D x y z w v t→E x y z w v t→F x y z w v t→G x y z w v t→P):P:=h.elim λx h=>Oz h (k x)
theorem OG{A B C D E F G H:fq→α1→α2→α3→qJ→yR→Prop}(h:∃x y z w v t,A x y z w v t∧B x y z w v t∧C x y z w v t∧D x y z w v t∧E x y z w v t∧F x y z w v t∧G x y z w v t∧H x y z w v t)(k:∀x y z w v t,A x y z w v t→B x y z w v t→C x y z w v t→D x y z w v t→E x y z w v t→F x y z w v t→G x y z w v t→H x y z w v t→P):P:=h.elim λx h=>OA h (k x)
theorem OH{A:fq→α1→α2→α3→qJ→yR→MD→Prop}(h:∃x y z w v t q,A x y z w v t q)(k:∀x y z w v t q,A x y z w v t q→P):P:=h.elim λx h=>OB h (k x)
theorem OI{A B C D E F G:fq→α1→α2→α3→qJ→yR→MD→Prop}(h:∃x y z w v t q,A x y z w v t q∧B x y z w v t q∧C x y z w v t q∧D x y z w v t q∧E x y z w v t q∧F x y z w v t q∧G x y z w v t q)(k:∀x y z w v t q,A x y z w v t q→B x y z w v t q→C x y z w v t q→D x y z w v t q→E x y z w v t q→F x y z w v t q→G x y z w v t q→P):P:=h.elim λx h=>OE h (k x)
theorem nR{A:fq→α1→α2→α3→qJ→yR→MD→PN→Prop}(h:∃x y z w v t q u,A x y z w v t q u)(k:∀x y z w v t q u,A x y z w v t q u→P):P:=h.elim λx h=>OH h (k x)
theorem fu{p:fq→α1→Prop}(x0:fq)(x1:α1)(h:p x0 x1):∃x0 x1,p x0 x1:=⟨x0,x1,h⟩
theorem h9{p:fq→α1→α2→Prop}(x0:fq)(x1:α1)(x2:α2)(h:p x0 x1 x2):∃x0 x1 x2,p x0 x1 x2:=⟨x0,fu x1 x2 h⟩
theorem jC{p:fq→α1→α2→α3→Prop}(x0:fq)(x1:α1)(x2:α2)(x3:α3)(h:p x0 x1 x2 x3):∃x0 x1 x2 x3,p x0 x1 x2 x3:=⟨x0,h9 x1 x2 x3 h⟩
theorem Hg{p:fq→α1→α2→α3→qJ→Prop}(x0:fq)(x1:α1)(x2:α2)(x3:α3)(x4:qJ)(h:p x0 x1 x2 x3 x4):∃x0 x1 x2 x3 x4,p x0 x1 x2 x3 x4:=⟨x0,jC x1 x2 x3 x4 h⟩
theorem HR{p:fq→α1→α2→α3→qJ→yR→Prop}(x0:fq)(x1:α1)(x2:α2)(x3:α3)(x4:qJ)(x5:yR)(h:p x0 x1 x2 x3 x4 x5):∃x0 x1 x2 x3 x4 x5,p x0 x1 x2 x3 x4 x5:=⟨x0,Hg x1 x2 x3 x4 x5 h⟩
theorem OL{p:fq→α1→α2→α3→qJ→yR→MD→Prop}(x0:fq)(x1:α1)(x2:α2)(x3:α3)(x4:qJ)(x5:yR)(x6:MD)(h:p x0 x1 x2 x3 x4 x5 x6):∃x0 x1 x2 x3 x4 x5 x6,p x0 x1 x2 x3 x4 x5 x6:=⟨x0,HR x1 x2 x3 x4 x5 x6 h⟩
theorem Ao{p:fq→α1→α2→α3→qJ→yR→MD→PN→Prop}(x0:fq)(x1:α1)(x2:α2)(x3:α3)(x4:qJ)(x5:yR)(x6:MD)(x7:PN)(h:p x0 x1 x2 x3 x4 x5 x6 x7):∃x0 x1 x2 x3 x4 x5 x6 x7,p x0 x1 x2 x3 x4 x5 x6 x7:=⟨x0,OL x1 x2 x3 x4 x5 x6 x7 h⟩
@[elab_as_elim] theorem rl{α:Sort _}{a b:α}{motive:α→Prop}(h:a=b)(p:motive b):motive a:=h▸p
@[elab_as_elim] theorem rr{α:Sort _}{a b:α}{motive:α→Prop}(h:a=b)(p:motive a):motive b:=h▸p
theorem An{a:Int}(h1: -999≤a)(h2:a≤999):a.natAbs<1000:=by
 cases a with
 |ofNat n=>exact Nat.lt_succ_of_le (Int.ofNat_le.mp h2)
 |negSucc n=>exact Nat.lt_succ_of_le (Int.ofNat_le.mp (Int.le_of_neg_le_neg h1))
theorem subs{a b:Nat}(h:b<a):a-b=a-(b+1)+1:=(Nat.succ_pred_eq_of_pos (Nat.sub_pos_of_lt h)).symm
theorem Cs{a b:Nat}(h:a<b):a≤(a+b)/2:=(Nat.le_div_iff_mul_le (by decide)).mpr (Nat.mul_two a▸Nat.add_le_add_left (Nat.le_of_lt h) a)
theorem yj{a b:Nat}(h:a<b):(a+b)/2<b:=(Nat.div_lt_iff_lt_mul (by decide)).mpr (Nat.mul_two b▸Nat.add_lt_add_right h b)
end
section
variable{a b c d e f g:Nat}
theorem HX(h0:c≤13+b)(h1:a≤10*c):a<10*(b+15):=Nat.lt_of_le_of_lt h1 (Nat.mul_lt_mul_of_pos_left (Nat.lt_of_le_of_lt h0 (Nat.add_comm 13 b▸Nat.add_lt_add_left (by decide) b)) (by decide))
theorem AC(h0:a<c)(h1:c<b):a<b:=Nat.lt_trans h0 h1
theorem Eg(h0:a=b)(h1:b<2):a<64:=h0▸Nat.lt_trans h1 (by decide)
theorem HY(h0:a≤c)(h1:c<b):a+1≤b:=Nat.lt_of_le_of_lt h0 h1
theorem vN(h0:a<100):a<4096:=Nat.lt_trans h0 (by decide)
theorem HZ(h0:a≤5):Int.natAbs (↑a:Int)<1000:=Nat.lt_of_le_of_lt h0 (by decide)
theorem AE(h0:¬a<b):¬(↑a:Int)<(↑b:Int):=Int.not_lt.mpr (Int.ofNat_le.mpr (Nat.not_lt.mp h0))
theorem H7(h0:a≤5):a-(b+1)≤5:=Nat.le_trans (Nat.sub_le _ _) h0
theorem xH(h0:b=a)(h1:¬2≤b):a<2:=h0▸Nat.not_le.mp h1
theorem H9(h0:a<b+(c+1)):a<b+1+c:=Nat.lt_of_lt_of_le h0 (Nat.le_of_eq (Nat.add_right_comm b 1 c).symm)
theorem Eh(h0:a+(b+c)<4096):a+b<4096:=Nat.lt_of_le_of_lt (Nat.add_le_add_left (Nat.le_add_right b c) a) h0
theorem Ia(h0:a≤1+(b-1))(h1:a>1):a-1<b:=by cases b with |zero=>exact absurd h0 (Nat.not_le.mpr h1)|succ b=>exact Nat.lt_succ_of_le (Nat.sub_le_of_le_add (Nat.add_comm 1 b▸h0))
theorem AG(h0:a+(c+1)≤b):a<b:=Nat.lt_of_le_of_lt (Nat.le_add_right _ _) h0
theorem Ib(h0:b≤41)(h1:c≤41)(h2:a≤d)(h3:d<b+c):a<4096:=Nat.lt_of_le_of_lt h2 (Nat.lt_of_lt_of_le h3 (Nat.le_trans (Nat.add_le_add h0 h1) (by decide)))
theorem Ig:min a b≤b:=Nat.min_le_right _ _
theorem Ij(h0:a+1≤b):a+1+(b-(a+1))≤b:=Nat.le_of_eq (Nat.add_sub_cancel' h0)
theorem Ik(h0:a<63):¬300<a/30+1:=Nat.not_lt.mpr (Nat.succ_le_of_lt (Nat.lt_of_le_of_lt (Nat.div_le_self a 30) (Nat.lt_trans h0 (by decide))))
theorem rY(h0:a+1<4096):a<4096:=Nat.lt_of_succ_lt h0
theorem Ej(h0:a≤4):(↑a:Int)≤9:=Int.le_trans (Int.ofNat_le.mpr h0) (by decide)
theorem Il(h0:b≤41)(h1:a≤c)(h2:c<b):a<4096:=Nat.lt_of_le_of_lt h1 (Nat.lt_of_lt_of_le h2 (Nat.le_trans h0 (by decide)))
theorem Ek(h0:a=c)(h1:b≥c):a≤b:=h0▸h1
theorem Im(h0:c=a-b)(h1:b<a):a-(b+1)<c:=h0▸Nat.sub_lt_sub_left h1 (Nat.lt_succ_self b)
theorem El(h0:a=b)(h1:b<64):a<4096:=h0▸Nat.lt_trans h1 (by decide)
theorem Iq(h0:a<100):a-b<200:=Nat.lt_of_le_of_lt (Nat.sub_le _ _) (Nat.lt_trans h0 (by decide))
theorem Iv:0≤(↑a:Int):=Int.natCast_nonneg _
theorem xK(h0:b<45)(h1:a=2*b):a<4096:=h1▸Nat.lt_of_le_of_lt (Nat.mul_le_mul_left 2 (Nat.le_of_lt h0)) (by decide)
theorem IA:((↑a:Int)+(↑b:Int))/2=(↑((a+b)/2):Int):=rfl
theorem xM(h0:b<45)(h1:c<45)(h2:d=2*b)(h3:e=2*c)(h4:a≤d+e):a<200:=Nat.lt_of_le_of_lt h4 (Nat.lt_of_le_of_lt (Nat.add_le_add (h2▸Nat.mul_le_mul_left 2 (Nat.le_of_lt h0)) (h3▸Nat.mul_le_mul_left 2 (Nat.le_of_lt h1))) (by decide))
theorem rZ(h0:c=b)(h1:a<c):a<b:=h0▸h1
theorem ID(h0:a<63):a+1≤64:=Nat.lt_succ_of_lt h0
theorem IF(h0:a≤c)(h1:c<b):a<b:=Nat.lt_of_le_of_lt h0 h1
theorem Eo(h0:a<64):a+1≤16777216+1:=Nat.lt_of_lt_of_le h0 (by decide)
theorem r4:a+(b+1)=a+1+b:=(Nat.add_right_comm a 1 b).symm
theorem II(h0:d≤b+c)(h1:a≤d+1):a≤b+(c+1):=Nat.le_trans h1 (Nat.succ_le_succ h0)
theorem AI(h0:a<4096):a≤16777216:=Nat.le_of_lt (Nat.lt_trans h0 (by decide))
theorem AJ(h0:a+(c+1)≤b):a-1<b:=Nat.lt_of_le_of_lt (Nat.sub_le _ _) (Nat.lt_of_le_of_lt (Nat.le_add_right _ _) h0)
theorem IK(h0:b-(0+1)≤a)(h1:a<b):a=b-1:=Nat.le_antisymm (Nat.le_sub_one_of_lt h1) h0
theorem IL(h0:a=b+1)(h1:c=7∧b≤4):a≤5:=h0.symm▸Nat.succ_le_succ h1.2
theorem IM(h0:a≤5*c)(h1:d≤5)(h2:b≤d):a+b≤5*(c+1):=Nat.add_le_add h0 (Nat.le_trans h2 h1)
theorem IP(h0:2≤b)(h1:a=b):0<a:=h1.symm▸Nat.lt_of_lt_of_le (by decide) h0
theorem vP(h0:a+2*(c+1)<b):a<b:=Nat.lt_of_le_of_lt (Nat.le_add_right _ _) h0
theorem IT(h0:a<19):a<64:=Nat.lt_trans h0 (by decide)
theorem IU(h0:a<8):a≤7:=Nat.le_of_lt_succ h0
theorem AK(h0:a=b+1):a-1=b:=congrArg Nat.pred h0
theorem IV(h0:a+1=c)(h1:c<b):a≤b+1:=Nat.le_of_lt (Nat.lt_trans (Nat.lt_of_lt_of_eq (Nat.lt_succ_self a) h0) (Nat.lt_succ_of_lt h1))
theorem IX(h0:a<b)(h1:b≤5):min a b+1+(b-(a+1))≤5:=(Nat.min_eq_left (Nat.le_of_lt h0)).symm▸Nat.le_trans (Nat.le_of_eq (Nat.add_sub_cancel' h0)) h1
theorem AM(h0:1≤a):a-1<a:=Nat.sub_lt h0 (by decide)
theorem AO(h0:a<32):a≤31:=Nat.le_of_lt_succ h0
theorem Et(h0:a<b+1)(h1:a≥b):a=b:=Nat.le_antisymm (Nat.le_of_lt_succ h0) h1
theorem Ew(h0:a+2*(b+1)<c):a+1+2*b<c:=Nat.lt_of_le_of_lt (Nat.add_right_comm a 1 (2*b)▸Nat.le_succ _) h0
theorem AP(h0:a<45):a<4096:=Nat.lt_trans h0 (by decide)
theorem r6(h0:a<45):a<100:=Nat.lt_trans h0 (by decide)
theorem I7(h0:a+2*c<b):a<b:=Nat.lt_of_le_of_lt (Nat.le_add_right _ _) h0
theorem Jb(h0:b=a):a=b:=h0.symm
theorem AQ(h0:a<c)(h1:b=c):a<b:=h1▸h0
theorem Jd:a<b∨a=b∨a=b+1∨b+1<a:=(Nat.lt_trichotomy a b).elim .inl λh=>h.elim (λh=>.inr (.inl h)) λh=>.inr (.inr ((Nat.eq_or_lt_of_le h).elim (λh=>.inl h.symm) .inr))
theorem AS(h0:a≤1000):a≤16777216:=Nat.le_trans h0 (by decide)
theorem Je(h0:c=d)(h1:d≤e)(h2:e<c):a=b:=absurd h2 (Nat.not_lt.mpr (h0.symm▸h1))
theorem Jf(h0:b≤41)(h1:a≤b):a<64:=Nat.lt_of_le_of_lt (Nat.le_trans h1 h0) (by decide)
theorem AU(h0:b-a=0)(h1:a≤b):a=b:=Nat.le_antisymm h1 (Nat.le_of_sub_eq_zero h0)
theorem mW(h0:a+1=b+1):a=b:=Nat.succ.inj h0
theorem Jh(h0:a≤1000):a≤16777216+1:=Nat.le_trans h0 (by decide)
theorem AX(h0:a+40*c+200<b):a+1+64<b:=Nat.lt_of_le_of_lt (show a+65≤a+40*c+200 from Nat.add_le_add (Nat.le_add_right a (40*c)) (by decide)) h0
theorem Ji(h0:a≤63):a<4096:=Nat.lt_of_le_of_lt h0 (by decide)
theorem Jj(h0:a<4096):a≤4096:=Nat.le_of_lt h0
theorem Jk:a<a+1:=Nat.lt_succ_self _
theorem Ey(h0:a≤20)(h1:b≤20):a+b<4096:=Nat.lt_of_le_of_lt (Nat.add_le_add h0 h1) (by decide)
theorem Jm(h0:c<b)(h1:a<c):a<b:=Nat.lt_trans h1 h0
theorem Jo(h0:¬a<b)(h1:a<b+1):a=b:=Nat.le_antisymm (Nat.le_of_lt_succ h1) (Nat.not_lt.mp h0)
theorem mX(h0:a+(b+1)≤c):a+1+b≤c:=Nat.le_trans (Nat.le_of_eq (Nat.succ_add a b)) h0
theorem Jp(h0:c=b)(h1:b+1≤18)(h2:a=c+1):a≤18:=h2.symm▸h0.symm▸h1
theorem AZ(h0:a<b):¬a=b:=Nat.ne_of_lt h0
theorem Jr(h0:a+(b+1)≤32):a<32:=Nat.lt_of_le_of_lt (Nat.le_add_right _ _) h0
theorem EB(h0:b≤4)(h1:a=b):a≤4:=h1▸h0
theorem Js(h0:a≤41):Int.natAbs (↑a:Int)<1000000:=Nat.lt_of_le_of_lt h0 (by decide)
theorem EC(h0:a+(b+c)<4096):a+b+c<4096:=Nat.add_assoc a b c▸h0
theorem Jv(h0:a≤b+1):a+1≤b+1+1:=Nat.lt_succ_of_le h0
theorem Jx(h0:a=b+1):0<a:=h0▸Nat.succ_pos _
theorem xO(h0:a≤5*b)(h1:b≤4):0+a<4096:=Nat.lt_of_le_of_lt (Nat.le_trans (Nat.le_of_eq (Nat.zero_add a)) (Nat.le_trans h0 (Nat.mul_le_mul_left 5 h1))) (by decide)
theorem Jy(h0:(a+b)/2<c):(a+b)/2≤c:=Nat.le_of_lt h0
theorem JB(h0:c=a)(h1:c=a+1):a+1≤b:=absurd (h0.symm.trans h1) (Nat.ne_of_lt (Nat.lt_succ_self a))
theorem A0(h0:b-a=c+1):a<b:=Nat.lt_of_sub_pos (h0▸Nat.succ_pos _)
theorem EE(h0:e=a-f+(c-g))(h1:a-f+(c-g)=a-b+(c-d)+1):a-b+(c-d)<e:=h0▸h1▸Nat.lt_succ_self _
theorem JC(h0:a=2*b):a+2=2*(b+1):=h0▸rfl
theorem EF(h0:a≤13+31):a<31+15:=Nat.lt_of_le_of_lt h0 (by decide)
theorem r7:max 0 (min 0 (↑a:Int))=0:=rfl
theorem JG(h0:a<b):a=b-1∨a<b-1:=(Nat.lt_or_eq_of_le (Nat.le_sub_one_of_lt h0)).symm
theorem JH(h0:a≤5)(h1:b≤5*c):a+b≤5*(c+1):=Nat.add_comm b a▸Nat.add_le_add h1 h0
theorem r8:1≤a+1:=Nat.le_add_left _ _
theorem EG(h0:a=c∧d≤b)(h1:c<b):a≤b:=h0.1▸Nat.le_of_lt h1
theorem JI(h0:b≤4)(h1:c≤5*d)(h2:d<b)(h3:e≤5)(h4:a≤c+f)(h5:f<e):a<4096:=Nat.lt_of_le_of_lt h4 (Nat.lt_of_le_of_lt (Nat.add_le_add (Nat.le_trans h1 (Nat.mul_le_mul_left 5 (Nat.le_trans (Nat.le_of_lt h2) h0))) (Nat.le_trans (Nat.le_of_lt h5) h3)) (by decide))
theorem JL:2+2*a=2*(a+1):=Nat.add_comm _ _
theorem i8(h0:a<64):a<4096:=Nat.lt_trans h0 (by decide)
theorem JO(h0:a<(b+c)/2+1):a≤(b+c)/2:=Nat.le_of_lt_succ h0
theorem A6:a+1+b=a+(b+1):=Nat.add_right_comm a 1 b
theorem EI(h0:a≤7):a<8:=Nat.lt_succ_of_le h0
theorem EJ(h0:b<64)(h1:a≤c)(h2:c<d)(h3:d=b):a<4096:=Nat.lt_of_le_of_lt h1 (Nat.lt_trans h2 (h3▸Nat.lt_trans h0 (by decide)))
theorem A9(h0:a≤4):a<4096:=Nat.lt_of_le_of_lt h0 (by decide)
theorem JS(h0:a=min c b+(b-c+1)):a=b+1:=h0.trans ((Nat.le_total c b).elim (λh=>(Nat.min_eq_left h).symm▸congrArg (λx=>x+1) (Nat.add_sub_cancel' h)) λh=>by rw[Nat.min_eq_right h,Nat.sub_eq_zero_of_le h])
theorem Ba(h0:a<b+1):a≤b:=Nat.le_of_lt_succ h0
theorem Bb(h0:a<b):a≤b:=Nat.le_of_lt h0
theorem JT(h0:a≤b)(h1:b<1):a=b:=Nat.le_antisymm h0 (Nat.le_trans (Nat.le_of_lt_succ h1) (Nat.zero_le _))
theorem JU:0≤-1+((↑a:Int)+1):=by rw[Int.add_comm,Int.add_neg_cancel_right];exact Int.natCast_nonneg a
theorem EL(h0:b=c)(h1:a+1≤c):a<b:=h0▸h1
theorem xP(h0:a≤20)(h1:b≤20):a+b<64:=Nat.lt_of_le_of_lt (Nat.add_le_add h0 h1) (by decide)
theorem JX:a+b+c=a+(b+c):=Nat.add_assoc _ _ _
theorem r9(h0:a≤b):a+1≤b+1:=Nat.lt_succ_of_le h0
theorem JY(h0:a≤b):min a b=a:=Nat.min_eq_left h0
theorem J0(h0:a+1≤b):a+1+1≤b+1:=Nat.lt_succ_of_le h0
theorem J1(h0:c=b-a)(h1:a<b):(a+b)/2-a<c:=h0▸Nat.sub_lt_sub_right (Cs h1) (yj h1)
theorem Be(h0:a=b):a≤b:=Nat.le_of_eq h0
theorem J2(h0:a<100):a-0<200:=Nat.lt_trans h0 (by decide)
theorem ER(h0:b≤4)(h1:a=c)(h2:c<b):a<4096:=h1▸Nat.lt_of_lt_of_le h2 (Nat.le_trans h0 (by decide))
theorem ES(h0:a≤5):a+1<4096:=Nat.lt_of_le_of_lt (Nat.succ_le_succ h0) (by decide)
theorem J3(h0:0+a<4096):¬a>16777216:=Nat.not_lt.mpr (Nat.le_trans (Nat.le_add_left a 0) (Nat.le_trans (Nat.le_of_lt h0) (by decide)))
theorem sd(h0:b=c)(h1:a<c):a<b:=h0▸h1
theorem vS(h0:¬b<a):a≤b:=Nat.not_lt.mp h0
theorem J4(h0:a+2*(c+1)<b):a+1<b:=Nat.lt_of_le_of_lt (Nat.add_le_add_left (Nat.le_add_left 1 (2*c+1)) a) h0
theorem Bf(h0:a<2):a<64:=Nat.lt_trans h0 (by decide)
theorem vU(h0:b<a):a+1-(b+1)<a+1-b:=Nat.sub_lt_sub_left (Nat.lt_succ_of_lt h0) (Nat.lt_succ_self b)
theorem J5(h0:c<b+1)(h1:a<c):a<b:=Nat.lt_of_lt_of_le h1 (Nat.le_of_lt_succ h0)
theorem J6(h0:2≤b)(h1:c=b)(h2:a=c):0<a:=h2.symm▸h1.symm▸Nat.lt_of_lt_of_le (by decide) h0
theorem ET(h0:a≤b+c):a≤b+1+c:=Nat.le_trans h0 (Nat.add_le_add_right (Nat.le_succ b) c)
theorem J8:Int.toNat (-1+((↑a:Int)+1))=a:=by rw[Int.add_comm,Int.add_neg_cancel_right];rfl
theorem J9(h0:a<b):(a+b)/2+1≤b:=yj h0
theorem J'(h0:a+1≤b):a<b:=h0
theorem Kc(h0:b≤18)(h1:a+1≤b):a+1≤18:=Nat.lt_of_lt_of_le h1 h0
theorem Kd(h0:b≤4)(h1:a<b):Int.natAbs (↑a:Int)<4096:=Nat.lt_trans (Nat.lt_of_lt_of_le h1 h0) (by decide)
theorem Ke(h0:b<900)(h1:a≤b+1):a≤1000:=Nat.le_trans h1 (Nat.le_trans h0 (by decide))
theorem xR(h0:a≤41):a<64:=Nat.lt_of_le_of_lt h0 (by decide)
theorem vV(h0:a<b):a+1≤b:=h0
theorem Kh(h0:d<c):a-b+(c-d)=a-b+(c-(d+1))+1:=(show c-d=c-(d+1)+1 from(Nat.sub_add_cancel (Nat.sub_pos_of_lt h0)).symm).symm▸rfl
theorem Km(h0:b≤c)(h1:a<b):(a+b)/2<c:=Nat.lt_of_lt_of_le (yj h1) h0
theorem Bj(h0:a≤b)(h1:¬a=b):a≤b-1:=Nat.le_sub_one_of_lt (Nat.lt_of_le_of_ne h0 h1)
theorem Kn:(↑a:Int)=(↑b:Int)↔a=b:=⟨Int.ofNat.inj,λh=>h▸rfl⟩
theorem EY(h0:a+(b+1)≤32):a+1+b≤32:=Nat.add_right_comm a 1 b▸h0
theorem Ku(h0:c=a)(h1:d=a+1)(h2:d<c):a+1≤b:=absurd h2 (h0▸h1▸Nat.not_lt.mpr (Nat.le_succ _))
theorem Kv(h0:b<64)(h1:a≤b):a<64:=Nat.lt_of_le_of_lt h1 h0
theorem E1(h0:a+b<4096):a+b≤16777216:=Nat.le_of_lt (Nat.lt_trans h0 (by decide))
theorem Bl:a≤a+(b+1):=Nat.le_add_right _ _
theorem xS(h0:a<64):a≤16777216:=Nat.le_of_lt (Nat.lt_trans h0 (by decide))
theorem E2(h0:a≤18):a+1<4096:=Nat.lt_of_le_of_lt (Nat.succ_le_succ h0) (by decide)
theorem Kz:Int.toNat ((↑a:Int)-1-0)=a-1:=(congrArg Int.toNat (Int.sub_zero _)).trans (Int.toNat_sub a 1)
theorem KA(h0:c≤b)(h1:a+1<c):a+1<b:=Nat.lt_of_lt_of_le h1 h0
theorem KC(h0:c≤d)(h1:d≤e)(h2:c=e+1):a=b+1:=absurd h2 (Nat.ne_of_lt (Nat.lt_succ_of_le (Nat.le_trans h0 h1)))
theorem Bm(h0:2≤a):1≤a:=Nat.le_of_lt h0
theorem KD(h0:a+1+2*c<b):a<b:=Nat.lt_of_le_of_lt (Nat.le_trans (Nat.le_succ a) (Nat.le_add_right _ _)) h0
theorem E5(h0:a<4096):(↑a:Int)<5000:=Int.lt_trans (Int.ofNat_lt.mpr h0) (by decide)
theorem E6(h0:b+1≤a):1≤a:=Nat.le_trans (Nat.le_add_left 1 b) h0
theorem KH:(↑a:Int)+(↑b:Int)=(↑(a+b):Int):=rfl
theorem KI(h0:a≤1):a≤16777216+1:=Nat.le_trans h0 (by decide)
theorem Bq(h0:a-b=c+1):a-(b+1)=c:=congrArg Nat.pred h0
theorem KL(h0:a=e-d)(h1:b≤10*c)(h2:e-d≤9):a+1+b≤10*(c+1):=h0▸Nat.add_comm b _▸Nat.add_le_add h1 (Nat.succ_le_succ h2)
theorem KO(h0:b<200)(h1:a≤c)(h2:c<b-1):a<4096:=Nat.lt_of_le_of_lt h1 (Nat.lt_trans (Nat.lt_of_lt_of_le h2 (Nat.sub_le b 1)) (Nat.lt_trans h0 (by decide)))
theorem KQ(h0:c<a):0+a-1-b<a:=Nat.lt_of_le_of_lt (Nat.sub_le _ _) ((Nat.zero_add a).symm▸Nat.sub_lt (Nat.zero_lt_of_lt h0) (by decide))
theorem se(h0:a+1≤b):a≤b:=Nat.le_of_lt h0
theorem KW(h0:b<4096)(h1:a≤b):a<4096:=Nat.lt_of_le_of_lt h1 h0
theorem KY(h0:a≤17):a<19:=Nat.lt_of_le_of_lt h0 (by decide)
theorem KZ(h0:b<a):a-b+(c-d)=a-(b+1)+(c-d)+1:=(show a-b=a-(b+1)+1 from(Nat.sub_add_cancel (Nat.sub_pos_of_lt h0)).symm).symm▸Nat.add_right_comm _ _ _
theorem sf(h0:a≤b)(h1:¬a<b):a=b:=Nat.le_antisymm h0 (Nat.not_lt.mp h1)
theorem E8(h0:a≤20):a<4096:=Nat.lt_of_le_of_lt h0 (by decide)
theorem K5(h0:a+40*c+200<b):a+64<b:=Nat.lt_of_le_of_lt (Nat.add_le_add (Nat.le_add_right a (40*c)) (by decide)) h0
theorem E9(h0:a≤5)(h1:b≤5):a+1+b<4096:=Nat.lt_of_le_of_lt (Nat.add_le_add (Nat.succ_le_succ h0) h1) (by decide)
theorem K6(h0:b<64)(h1:a≤c)(h2:c<b):a<4096:=Nat.lt_of_le_of_lt h1 (Nat.lt_trans h2 (Nat.lt_trans h0 (by decide)))
theorem K8(h0:c=a-b)(h1:b<a):a-((b+a)/2+1)<c:=h0▸Nat.sub_lt_sub_left h1 (Nat.lt_succ_of_le (Cs h1))
theorem Br(h0:a≤b+1+c):a≤b+(c+1):=Nat.le_trans h0 (Nat.le_of_eq (Nat.add_right_comm b 1 c))
theorem Lc(h0:a<b):a+1<b+1:=Nat.lt_succ_of_le h0
theorem Fb(h0:a<0):a=0:=absurd h0 (Nat.not_lt_zero a)
theorem Ld(h0:c=d)(h1:c<d):a=b:=absurd h1 (h0▸Nat.lt_irrefl _)
theorem Lf(h0:a<200):Int.natAbs ((↑a:Int)-1)<1000:=An (Int.le_sub_right_of_add_le (Int.le_trans (by decide) (Int.natCast_nonneg a))) (Int.le_trans (Int.sub_le_self _ (by decide)) (Int.le_trans (Int.ofNat_le.mpr (Nat.le_of_lt h0)) (by decide)))
theorem Lg(h0:a≤b)(h1:c≤d)(h2:¬(a=b∧c=d)):a<b∨c<d:=(Nat.lt_or_eq_of_le h0).elim .inl λx=>(Nat.lt_or_eq_of_le h1).elim .inr λy=>absurd ⟨x,y⟩ h2
theorem Li(h0:b=c)(h1:d≤c)(h2:a<d):a<b:=h0.symm▸Nat.lt_of_lt_of_le h2 h1
theorem Lj(h0:a≤b)(h1:¬a=b):a<b:=Nat.lt_of_le_of_ne h0 h1
theorem Fe(h0:a=5):a≤32:=h0▸by decide
theorem sq(h0:a<b+1)(h1:¬a=b):a<b:=Nat.lt_of_le_of_ne (Nat.le_of_lt_succ h0) h1
theorem xT(h0:a≤41):a<4096:=Nat.lt_of_le_of_lt h0 (by decide)
theorem Ff(h0:a≤41)(h1:b≤41):a+b<4096:=Nat.lt_of_le_of_lt (Nat.add_le_add h0 h1) (by decide)
theorem vY(h0:a<b):(↑a:Int)<(↑b:Int):=Int.ofNat_lt.mpr h0
theorem Lp(h0:a≤5*b)(h1:b≤4):a≤20:=Nat.le_trans h0 (Nat.mul_le_mul_left 5 h1)
theorem Lr(h0:a-b=0):a≤b:=Nat.le_of_sub_eq_zero h0
theorem Lw(h0:a<200):a<4096:=Nat.lt_trans h0 (by decide)
theorem sr(h0:a≤20):a<64:=Nat.lt_of_le_of_lt h0 (by decide)
theorem Fj(h0:a<b):a≤(a+b)/2:=Nat.le_of_lt (Nat.lt_of_le_of_lt (Nat.le_refl a) (Nat.lt_of_lt_of_le h0 (Nat.le_refl b)))|>λq=>(Nat.le_div_iff_mul_le Nat.two_pos).mpr ((Nat.mul_two a).symm▸Nat.add_le_add_left q a)
theorem Lx(h0:a+2*(c+4)<b):a<b:=Nat.lt_of_le_of_lt (Nat.le_add_right _ _) h0
theorem Fk(h0:b≤4)(h1:a≤5*b):a<4096:=Nat.lt_of_le_of_lt (Nat.le_trans h1 (Nat.mul_le_mul_left 5 h0)) (by decide)
theorem LB(h0:c≤b):0+a-1-b≤0+a-1-c:=Nat.sub_le_sub_left h0 _
theorem LD(h0:b≤5):min a b≤5:=Nat.le_trans (Nat.min_le_right _ _) h0
theorem Fq(h0:a≤b+c):a+1≤b+1+c:=Nat.le_trans (Nat.succ_le_succ h0) (Nat.le_of_eq (Nat.add_right_comm b c 1))
theorem LG(h0:b≤5*c)(h1:a≤d)(h2:d≤5):a+b≤5*(c+1):=Nat.add_comm b a▸Nat.add_le_add h0 (Nat.le_trans h1 h2)
theorem Ft(h0:c<45)(h1:d<45)(h2:a=2*c)(h3:b=2*d):a-0+(b-0)<200:=Nat.lt_of_le_of_lt (Nat.add_le_add (Nat.le_trans (Nat.sub_le _ _) (h2▸Nat.mul_le_mul_left 2 (Nat.le_of_lt h0))) (Nat.le_trans (Nat.sub_le _ _) (h3▸Nat.mul_le_mul_left 2 (Nat.le_of_lt h1)))) (by decide)
theorem LI(h0:0<a):0<(↑a:Int):=Int.ofNat_lt.mpr h0
theorem Bx(h0:a+2*(c+3)<b):a<b:=Nat.lt_of_le_of_lt (Nat.le_add_right _ _) h0
theorem By(h0:¬2≤a):a<2:=Nat.not_le.mp h0
end
section
variable{a b c d e f g:Int}
theorem Ef(h0: -20≤a∧a≤20):(↑(Int.toNat (a+20)):Int)-20=a:=by rw[Int.toNat_of_nonneg (show 0≤a+20 from Int.add_le_add_right h0.1 20)];exact Int.add_sub_cancel a 20
theorem AD(h0:0≤a):(↑(Int.toNat a):Int)=a:=Int.toNat_of_nonneg h0
theorem vO(h0: -4≤a)(h1:a≤4)(h2:0≤b)(h3:b≤4):Int.natAbs a<1000∧Int.natAbs (a+b)<1000:=⟨An (Int.le_trans (by decide) h0) (Int.le_trans h1 (by decide)),An (Int.le_trans (by decide) (Int.add_le_add h0 h2)) (Int.le_trans (Int.add_le_add h1 h3) (by decide))⟩
theorem H8(h0:a<c)(h1:d=b)(h2:e=c)(h3:e<d):a<b:=Int.lt_trans h0 (h2▸h1▸h3)
theorem AF(h0:a<b):a≤b:=Int.le_of_lt h0
theorem Ie(h0:b≤a∧a<b+1):a=b:=Int.le_antisymm (Int.le_of_lt_add_one h0.2) h0.1
theorem Ih(h0:c<d)(h1:e=a)(h2:f=d)(h3:a≤c)(h4:f<e):a≤b:=absurd (h1▸h2▸h4:d<a) (Int.not_lt.mpr (Int.le_trans h3 (Int.le_of_lt h0)))
theorem Ii(h0:a<b):a<max b c:=Int.lt_of_lt_of_le h0 (Int.le_max_left _ _)
theorem Ei:a≤a∧a<a+1:=⟨Int.le_refl a,Int.lt_succ a⟩
theorem AH:a<b∨b≤a:=(Decidable.em (a<b)).imp_right Int.not_lt.mp
theorem Io(h0:a<b)(h1:¬b=a+1):a+1<b:=Int.lt_iff_le_and_ne.mpr ⟨h0,Ne.symm h1⟩
theorem Ip(h0:Int.natAbs a<1000):Int.natAbs (a+(1-1))<4000:=show Int.natAbs (a+0)<4000 from(Int.add_zero a).symm▸Nat.lt_trans h0 (by decide)
theorem xJ(h0:a<6):a-3≤4:=Int.sub_right_le_of_le_add (Int.le_trans (Int.le_of_lt h0) (by decide))
theorem Ir(h0:a<b∨a=b∧c≤d):a≤b:=h0.elim Int.le_of_lt λh=>Int.le_of_eq h.1
theorem Iw(h0:c=a)(h1:d=b)(h2:c<d):a≤b:=h0▸h1▸Int.le_of_lt h2
theorem mV:a-1<a:=Int.sub_lt_self a (by decide)
theorem Iz(h0:0≤a)(h1:a<6): -3≤a-3∧a-3≤2:=⟨Int.le_sub_right_of_add_le (show -3+3≤a from h0),Int.sub_right_le_of_le_add (show a≤2+3 from Int.le_of_lt_add_one h1)⟩
theorem En(h0:a<c∧d<a∧c<b):a≤b:=Int.le_of_lt (Int.lt_trans h0.1 h0.2.2)
theorem IB(h0:a≤4)(h1:b≤4):a+b≤21:=Int.le_trans (Int.add_le_add h0 h1) (by decide)
theorem IE(h0: -2≤a∧a≤2): -9≤a:=Int.le_trans (by decide) h0.1
theorem IG(h0:e<c)(h1:a<d)(h2:d=e):a≤b∧b<c↔a≤b∧b<d∨e≤b∧b<c:=⟨λh=>(Decidable.em (b<d)).elim (λq=>.inl ⟨h.1,q⟩) λq=>.inr ⟨h2▸Int.not_lt.mp q,h.2⟩,λh=>h.elim (λh=>⟨h.1,Int.lt_trans h.2 (h2▸h0)⟩) λh=>⟨Int.le_trans (Int.le_of_lt (h2▸h1)) h.1,h.2⟩⟩
theorem xN(h0:c+(b-1)=a):a-(b-1)=c:=h0▸Int.add_sub_cancel c (b-1)
theorem Ep(h0: -4≤a): -21<a:=Int.lt_of_lt_of_le (by decide) h0
theorem IQ(h0:d≤a)(h1:(-d≤b∧b≤d)∧-d≤c∧c≤d):(-a≤b∧b≤a)∧-a≤c∧c≤a:=⟨⟨Int.le_trans (Int.neg_le_neg h0) h1.1.1,Int.le_trans h1.1.2 h0⟩,Int.le_trans (Int.neg_le_neg h0) h1.2.1,Int.le_trans h1.2.2 h0⟩
theorem IR(h0:a≤b):min a b=a:=Int.min_eq_left h0
theorem Er(h0:a<c):a+b<c+b:=Int.add_lt_add_right h0 b
theorem IS(h0:c<b)(h1:a<c):a<b:=Int.lt_trans h1 h0
theorem Es(h0:0≤a)(h1:a<5):Int.natAbs a<1000:=An (Int.le_trans (by decide) h0) (Int.le_trans (Int.le_of_lt h1) (by decide))
theorem AL(h0:c<b)(h1:a≤c):a≤b:=Int.le_trans h1 (Int.le_of_lt h0)
theorem IY(h0:0≤a)(h1:a<3)(h2:¬a=2)(h3:¬a=0):a=1:=Int.le_antisymm (Int.le_of_lt_add_one (Int.lt_iff_le_and_ne.mpr ⟨Int.le_of_lt_add_one h1,h2⟩)) (Int.lt_iff_le_and_ne.mpr ⟨h0,Ne.symm h3⟩)
theorem IZ(h0:b<c)(h1:c≤a):¬a<b:=Int.not_lt.mpr (Int.le_trans (Int.le_of_lt h0) h1)
theorem I2(h0: -20≤a∧a≤20)(h1: -20≤b-1∧b-1≤20):Int.natAbs a<1000∧Int.natAbs b<1000:=⟨An (Int.le_trans (by decide) h0.1) (Int.le_trans h0.2 (by decide)),An (Int.le_trans (by decide) (Int.add_le_of_le_sub_right h1.1)) (Int.le_trans (Int.le_add_of_sub_right_le h1.2) (by decide))⟩
theorem I4(h0:b≤20)(h1: -b≤a∧a≤b): -20≤a:=Int.le_trans (Int.neg_le_neg h0) h1.1
theorem vQ(h0:a<c)(h1:c<d)(h2:d<b):a<b:=Int.lt_trans h0 (Int.lt_trans h1 h2)
theorem I9(h0:¬b>a):max a b=a:=Int.max_eq_left (Int.not_lt.mp h0)
theorem Ja(h0:b≤c↔b≤a):a<b↔c<b:=Int.not_le.symm.trans ((not_congr h0.symm).trans Int.not_le)
theorem Jc(h0: -10≤b)(h1: -10≤a-b∧a-b≤10): -21<a:=Int.lt_of_lt_of_le (show -21< -10+ -10 by decide) (Int.le_trans (Int.add_le_add h1.1 h0) (Int.le_of_eq (Int.sub_add_cancel a b)))
theorem AV(h0:0≤a): -4≤a-3:=Int.le_sub_right_of_add_le (Int.le_trans (by decide) h0)
theorem Jg(h0: -10≤b)(h1:b≤10)(h2: -10≤a-b∧a-b≤10): -20≤a∧a≤20:=⟨Int.le_trans (Int.add_le_add h2.1 h0) (Int.le_of_eq (Int.sub_add_cancel a b)),Int.le_trans (Int.le_of_eq (Int.sub_add_cancel a b).symm) (Int.add_le_add h2.2 h1)⟩
theorem Ex(h0:a-1<b):a≤b:=Int.le_of_sub_one_lt h0
theorem Jl(h0: -20≤a): -21<a:=h0
theorem EA(h0:b≤4):a+b-a<64:=Int.lt_of_le_of_lt (Int.le_trans (Int.le_of_eq (by rw[Int.add_comm,Int.add_sub_cancel])) h0) (by decide)
theorem Jq(h0:a-b<64):Int.toNat (a-b)<64:=(Int.toNat_lt' (by decide)).mpr h0
theorem ED(h0: -b≤a∧a<b):¬a< -b:=Int.not_lt.mpr h0.1
theorem Jz(h0:b≤a):¬a<b+(↑0:Int):=Int.not_lt.mpr ((Int.add_zero b).symm▸h0)
theorem JA(h0:b≤a):(↑(Int.toNat (a-b)):Int)=a-b:=Int.toNat_of_nonneg (Int.sub_nonneg.mpr h0)
theorem A1:a≤b→b≤c→a≤c:=Int.le_trans
theorem JD:a+1-1=a:=Int.add_sub_cancel _ _
theorem JE(h0:a<c)(h1:c<d)(h2:b=d):a<b:=Int.lt_trans h0 (h2▸h1)
theorem JF(h0: -9≤a)(h1:a≤9)(h2:0≤b)(h3:b≤9):Int.natAbs a<1000∧Int.natAbs (a+b)<1000:=⟨An (Int.le_trans (by decide) h0) (Int.le_trans h1 (by decide)),An (Int.le_trans (by decide) (Int.add_le_add h0 h2)) (Int.le_trans (Int.add_le_add h1 h3) (by decide))⟩
theorem A5(h0:a+(c-1)=b+(c-1)):a=b:=(Int.add_left_inj _).mp h0
theorem JK(h0: -1≤d)(h1:d≤1)(h2: -1≤e)(h3:e≤1)(h4:(-a≤b-d∧b-d≤a)∧-a≤c-e∧c-e≤a):(-(a+1)≤b∧b≤a+1)∧-(a+1)≤c∧c≤a+1:=⟨⟨Int.le_trans (Int.le_of_eq Int.neg_add) (Int.le_trans (Int.add_le_add h4.1.1 h0) (Int.le_of_eq (Int.sub_add_cancel b d))),Int.le_trans (Int.le_of_eq (Int.sub_add_cancel b d).symm) (Int.add_le_add h4.1.2 h1)⟩,Int.le_trans (Int.le_of_eq Int.neg_add) (Int.le_trans (Int.add_le_add h4.2.1 h2) (Int.le_of_eq (Int.sub_add_cancel c e))),Int.le_trans (Int.le_of_eq (Int.sub_add_cancel c e).symm) (Int.add_le_add h4.2.2 h3)⟩
theorem JM(h0:¬b<c)(h1:d=a)(h2:e=c)(h3:d<e):a≤b:=Int.le_trans (Int.le_of_lt (h1▸h2▸h3)) (Int.not_lt.mp h0)
theorem vR(h0:0≤a): -4≤a-2:=Int.le_sub_right_of_add_le (Int.le_trans (by decide) h0)
theorem JP(h0:0<a)(h1:a<5000):Int.natAbs a<9223372036854775808:=Int.ofNat_lt.mp ((Int.natAbs_of_nonneg (Int.le_of_lt h0)).symm▸Int.lt_trans h1 (by decide))
theorem EH(h0:a≤b)(h1:a≠b):a<b:=Int.lt_iff_le_and_ne.mpr ⟨h0,h1⟩
theorem JQ(h0:a<c)(h1:c≤b):a<b:=Int.lt_of_lt_of_le h0 h1
theorem JR(h0:a≤b)(h1:a=c)(h2:¬c=b):a<b:=Int.lt_iff_le_and_ne.mpr ⟨h0,λh=>h2 (h1.symm.trans h)⟩
theorem EK(h0:a<b∨a=b∧c≤d)(h1:b<a∨b=a∧d≤c):a=b:=h0.elim (λx=>h1.elim (λy=>absurd x (Int.lt_asymm y)) λy=>y.1.symm) λx=>x.1
theorem Bc:a≤b∨b≤a:=Int.le_total a b
theorem JV(h0:0≤a)(h1:a<2147483647):Int.natAbs a<9223372036854775808:=Int.ofNat_lt.mp ((Int.natAbs_of_nonneg h0).symm▸Int.lt_trans h1 (by decide))
theorem JW(h0:c≤a)(h1: -c≤b∧b≤c): -a≤b∧b≤a:=⟨Int.le_trans (Int.neg_le_neg h0) h1.1,Int.le_trans h1.2 h0⟩
theorem Bd(h0:a≤min c b):a≤b:=Int.le_trans h0 (Int.min_le_right _ _)
theorem EM(h0:c<a∧a<b):a≤b-1:=Int.le_sub_one_of_lt h0.2
theorem JZ(h0:b≤20)(h1:(-b≤c∧c≤b)∧-b≤a∧a≤b): -20≤a∧a≤20:=⟨Int.le_trans (Int.neg_le_neg h0) h1.2.1,Int.le_trans h1.2.2 h0⟩
theorem EN(h0:b≤a∧a<c):Int.toNat (a-b)<Int.toNat (c-b):=(Int.toNat_lt_toNat (Int.sub_pos_of_lt (Int.lt_of_le_of_lt h0.1 h0.2))).mpr (Int.sub_lt_sub_right h0.2 b)
theorem EP:a≤b→b≤a→a=b:=Int.le_antisymm
theorem EQ(h0:0<b):a<a+b:=Int.lt_add_of_pos_right a h0
theorem Bg(h0:(-8≤a∧a≤8)∧-8≤b∧b≤8): -20≤a∧a≤20:=⟨Int.le_trans (by decide) h0.1.1,Int.le_trans h0.1.2 (by decide)⟩
theorem Bh:Int.toNat (a+b-a)=Int.toNat b:=by rw[Int.add_comm,Int.add_sub_cancel]
theorem J7(h0:¬a≤b):max a b=a:=Int.max_eq_left (Int.le_of_lt (Int.not_le.mp h0))
theorem EU(h0:0≤a)(h1:¬a=0):0<a:=Int.lt_iff_le_and_ne.mpr ⟨h0,Ne.symm h1⟩
theorem Kf(h0:a≤b):max a b=b:=Int.max_eq_right h0
theorem EW(h0:a≤1):a≤10:=Int.le_trans h0 (by decide)
theorem Kg(h0:b≤c)(h1:c≤a):¬a<b:=Int.not_lt.mpr (Int.le_trans h0 h1)
theorem Kl(h0:a<b):a≤b-1∧b-1<b:=⟨Int.le_sub_one_of_lt h0,Int.sub_lt_self b (by decide)⟩
theorem Ko(h0:b≤a)(h1:¬a=b):Int.toNat (a-b)=Int.toNat (a-(b+1))+1:=(congrArg Int.toNat (show a-b=a-(b+1)+(1:Nat) by rw[←Int.sub_sub];exact(Int.sub_add_cancel _ _).symm)).trans (Int.toNat_add_nat (Int.sub_nonneg.mpr (Int.lt_iff_le_and_ne.mpr ⟨h0,Ne.symm h1⟩)) 1)
theorem Bk(h0:a≤min b c):a≤b:=Int.le_trans h0 (Int.min_le_left _ _)
theorem Kq(h0: -4≤a): -20≤a:=Int.le_trans (by decide) h0
theorem Kr:a< -20+(↑41:Int)↔a≤20:=Int.lt_add_one_iff (b:=20)
theorem Ks(h0:c<d∨c=d∧a≤b)(h1:d<c∨d=c∧b≤a):a=b:=h0.elim (λx=>h1.elim (λy=>absurd x (Int.lt_asymm y)) λy=>absurd x (y.1▸Int.lt_irrefl _)) λx=>h1.elim (λy=>absurd y (x.1▸Int.lt_irrefl _)) λy=>Int.le_antisymm x.2 y.2
theorem vW(h0:b<a):¬a≤b:=Int.not_le_of_gt h0
theorem Kw(h0:c≤b)(h1:a≤c):a≤b:=Int.le_trans h1 h0
theorem Kx(h0:a+1≤b):a≤b:=Int.le_of_lt h0
theorem E3:a+b-b=a:=Int.add_sub_cancel a b
theorem KE(h0:b<a):¬a<b:=λh=>Int.lt_irrefl _ (Int.lt_trans h h0)
theorem KG(h0:a<5):Int.toNat (a-0)≤4:=Nat.le_of_lt_succ ((Int.toNat_lt' (by decide)).mpr ((Int.sub_zero a).symm▸h0))
theorem Bo:(a<b∨a=b∧c≤d)∨b<a∨b=a∧d≤c:=(Int.lt_trichotomy a b).elim (λh=>.inl (.inl h)) λh=>h.elim (λh=>(Int.le_total c d).elim (λq=>.inl (.inr ⟨h,q⟩)) λq=>.inr (.inr ⟨h.symm,q⟩)) λh=>.inr (.inl h)
theorem Bp(h0:max a c≤b):a≤b:=Int.le_trans (Int.le_max_left _ _) h0
theorem KJ:a-b+b=a:=Int.sub_add_cancel _ _
theorem KP(h0:d<c)(h1:d=a+1):a≤b∧b<c↔a≤b∧b<a+1∨a+1≤b∧b<c:=⟨λh=>(Decidable.em (b<a+1)).elim (λq=>.inl ⟨h.1,q⟩) λq=>.inr ⟨Int.not_lt.mp q,h.2⟩,λh=>h.elim (λh=>⟨h.1,Int.lt_trans h.2 (h1▸h0)⟩) λh=>⟨Int.le_trans (Int.le_of_lt (Int.lt_succ a)) h.1,h.2⟩⟩
theorem KR(h0:a<c)(h1:c<b):a≤b:=Int.le_of_lt (Int.lt_trans h0 h1)
theorem KS(h0:b+1≤a):Int.toNat (a-b)=Int.toNat (a-(b+1))+1:=(congrArg Int.toNat (show a-b=a-(b+1)+(1:Nat) by rw[←Int.sub_sub];exact(Int.sub_add_cancel _ _).symm)).trans (Int.toNat_add_nat (Int.sub_nonneg.mpr h0) 1)
theorem KU(h0:a<b∨a=b∧c<d):a<b∨a=b∧c≤d:=h0.elim .inl λh=>.inr ⟨h.1,Int.le_of_lt h.2⟩
theorem vX(h0:b≤a):¬a<b:=Int.not_lt_of_ge h0
theorem KV(h0: -3≤a∧a≤2):Int.natAbs (a-1)<1000∧Int.natAbs (a+6)<1000:=⟨An (Int.le_sub_right_of_add_le (Int.le_trans (by decide) h0.1)) (Int.le_trans (Int.sub_le_self _ (by decide)) (Int.le_trans h0.2 (by decide))),An (Int.le_trans (by decide) (Int.add_le_add_right h0.1 6)) (Int.le_trans (Int.add_le_add_right h0.2 6) (by decide))⟩
theorem E7(h0: -b≤a∧a<b):¬a≥b:=Int.not_le.mpr h0.2
theorem KX(h0:c<b)(h1:c=a+1):a<b:=Int.lt_trans (Int.lt_succ a) (h1▸h0)
theorem K4(h0:¬a≤b):min a b=b:=Int.min_eq_right (Int.le_of_lt (Int.not_le.mp h0))
theorem K7(h0:a<a∨a=a∧b<b):False:=h0.elim (Int.lt_irrefl _) λh=>Int.lt_irrefl _ h.2
theorem La(h0:b≤20)(h1: -b≤a∧a≤b):a≤20:=Int.le_trans h1.2 h0
theorem Lb(h0:c<b)(h1:a<d)(h2:d=c):a<b:=Int.lt_trans (h2▸h1) h0
theorem Bs:a<b∨a=b∧c≤d→b<e∨b=e∧d≤f→a<e∨a=e∧c≤f:=λh1 h2=>h1.elim (λx=>h2.elim (λy=>.inl (Int.lt_trans x y)) λy=>.inl (y.1▸x)) λx=>h2.elim (λy=>.inl (x.1.symm▸y)) λy=>.inr ⟨x.1.trans y.1,Int.le_trans x.2 y.2⟩
theorem sj(h0:0≤a): -1≤a-1:=Int.le_sub_right_of_add_le (Int.le_trans (by decide) h0)
theorem Le(h0:0<a):0<a:=by omega
theorem Lh(h0: -21<b)(h1:c≤21)(h2:b≤a∧a<c): -20≤a∧a≤20:=⟨Int.le_trans h0 h2.1,Int.le_of_lt_add_one (Int.lt_of_lt_of_le h2.2 h1)⟩
theorem Lk(h0:b=a)(h1: -8≤b∧b≤8): -8≤a∧a<9:=h0▸⟨h1.1,Int.lt_of_le_of_lt h1.2 (by decide)⟩
theorem Ll(h0:a=b)(h1:c=d):¬(a<b∨a=b∧c<d):=λh=>h.elim (λh=>Int.lt_irrefl b (h0▸h)) λh=>Int.lt_irrefl d (h1▸h.2)
theorem Fd(h0:0≤a)(h1:a<5): -2≤a-2∧a-2≤2:=⟨Int.le_sub_right_of_add_le (show -2+2≤a from h0),Int.sub_right_le_of_le_add (show a≤2+2 from Int.le_of_lt_add_one h1)⟩
theorem Ln:min a b=a∨min a b=b:=(Int.le_total a b).elim (λh=>.inl (Int.min_eq_left h)) λh=>.inr (Int.min_eq_right h)
theorem Lo(h0: -1≤a): -10≤a:=Int.le_trans (by decide) h0
theorem Ls(h0: -4≤c)(h1:c≤4)(h2: -4≤d)(h3:d≤4)(h4:e≤4)(h5:f≤4)(h6:(c≤a∧a<c+e)∧d≤b∧b<d+f):(-8≤a∧a≤8)∧-8≤b∧b≤8:=⟨⟨Int.le_trans (by decide) (Int.le_trans h0 h6.1.1),Int.le_of_lt (Int.lt_of_lt_of_le h6.1.2 (Int.add_le_add h1 h4))⟩,Int.le_trans (by decide) (Int.le_trans h2 h6.2.1),Int.le_of_lt (Int.lt_of_lt_of_le h6.2.2 (Int.add_le_add h3 h5))⟩
theorem Bt:max a b=a∨max a b=b:=(Int.le_total a b).elim (λh=>.inr (Int.max_eq_right h)) λh=>.inl (Int.max_eq_left h)
theorem Lu(h0: -20≤a∧a≤20):Int.toNat (a+20)<41:=(Int.toNat_lt' (by decide)).mpr (Int.lt_of_le_of_lt (Int.add_le_add_right h0.2 20) (by decide))
theorem Fg(h0: -2≤a∧a≤2):a≤9:=Int.le_trans h0.2 (by decide)
theorem Lv(h0:Int.natAbs b<1000)(h1:Int.natAbs a<1000):Int.natAbs (↑(Int.toNat (a-b)):Int)<4000:=(Int.toNat_lt' (by decide)).mpr (Int.lt_of_le_of_lt (Int.add_le_add Int.le_natAbs (Int.natAbs_neg b▸Int.le_natAbs (a:=-b))) (Int.ofNat_lt.mpr (Nat.lt_trans (Nat.add_lt_add h1 h0) (by decide))))
theorem mY(h0:¬b≤a):a<b:=Int.not_le.mp h0
theorem Ly(h0:(-8≤a∧a≤8)∧-8≤b∧b≤8): -21<a:=Int.lt_of_lt_of_le (by decide) h0.1.1
theorem Lz(h0:c=a)(h1:c<b):a≤b:=h0▸Int.le_of_lt h1
theorem LA(h0:a=2): -20≤a∧a≤20:=h0▸by decide
theorem Bv(h0:max c a≤b):a≤b:=Int.le_trans (Int.le_max_right _ _) h0
theorem LC(h0:b>a):max a b=b:=Int.max_eq_right (Int.le_of_lt h0)
theorem xU(h0:a<c)(h1:b=c):a<b:=Int.lt_of_lt_of_le h0 (Int.le_of_eq h1.symm)
theorem LH(h0:a≤b)(h1:¬b=a):a+1≤b:=Int.lt_iff_le_and_ne.mpr ⟨h0,Ne.symm h1⟩
theorem LJ(h0:a<c)(h1:c<b):a<b:=Int.lt_trans h0 h1
theorem Bw(h0:Int.natAbs a<1000):Int.natAbs a<4000:=Nat.lt_trans h0 (by decide)
end
theorem Iu{a b c:Int}{d:Nat}(h0:a+(↑d:Int)=b)(h1:d<Int.toNat (c-a)):a≤b∧b<c:=h0▸⟨Int.le_add_of_nonneg_right (Int.natCast_nonneg d),Int.add_lt_of_lt_sub_left (Int.lt_toNat.mp h1)⟩
theorem Em{a:Int}{b:Nat}(h0:0≤a)(h1:a<(↑b:Int)):0≤a∧a<(↑b:Int):=⟨h0,h1⟩
theorem IC{a:Int}{b c:Nat}(h0:c<b)(h1:c=Int.toNat a):a<(↑b:Int):=Int.lt_of_le_of_lt (Int.self_le_toNat a) (h1▸Int.ofNat_lt.mpr h0)
theorem IJ{a b c:Int}{d e:Nat}(h0:(↑e:Int)=b-c):a+(b-c)+(↑d:Int)=a+(↑(e+d):Int):=by rw[←h0,Int.natCast_add,Int.add_assoc]
theorem Eu{a b:Int}{c:Nat}(h0:c<0):a≤b:=absurd h0 (Nat.not_lt_zero _)
theorem I5{a b c d:Int}{e:Nat}(h0:a=b∧c+1≤d∧d<c+1+(↑e:Int)):a=b∧c<d∧d<c+(↑(e+1):Int):=⟨h0.1,Int.lt_of_add_one_le h0.2.1,Int.lt_of_lt_of_le h0.2.2 (Int.le_of_eq (by rw[Int.add_assoc,Int.add_comm 1];rfl))⟩
theorem I6{a:Int}{b:Nat}(h0: -2≤a∧a≤2)(h1:b≤4):Int.natAbs (a-1)<1000∧Int.natAbs (a+(↑b:Int)+1)<1000:=⟨An (Int.le_sub_right_of_add_le (Int.le_trans (by decide) h0.1)) (Int.le_trans (Int.sub_le_self _ (by decide)) (Int.le_trans h0.2 (by decide))),An (Int.le_trans (by decide) (Int.add_le_add (Int.add_le_add h0.1 (Int.natCast_nonneg b)) (Int.le_refl 1))) (Int.le_trans (Int.add_le_add (Int.add_le_add h0.2 (Int.ofNat_le.mpr h1)) (Int.le_refl 1)) (by decide))⟩
theorem I8{a:Int}{b c:Nat}(h0:b<c):a+(↑b:Int)<a+(↑c:Int):=Int.add_lt_add_left (Int.ofNat_lt.mpr h0) a
theorem Ez{a:Int}{b c:Nat}(h0:Int.toNat a≤c)(h1:c<4096):min (Int.toNat a) b≤16777216:=Nat.le_trans (Nat.min_le_left _ _) (Nat.le_trans h0 (Nat.le_trans (Nat.le_of_lt h1) (by decide)))
theorem Jt{a:Int}{b:Nat}:a+1+(↑b:Int)=a+((↑b:Int)+1):=by rw[Int.add_assoc,Int.add_comm 1]
theorem Ju{a:Nat}{b:Int}(h0:a-Int.toNat b=a)(h1:¬Int.toNat b=0):a=0:=(Nat.eq_zero_or_pos a).elim id λh=>absurd h0 (Nat.ne_of_lt (Nat.sub_lt h (Nat.pos_of_ne_zero h1)))
theorem Jw{a b:Int}{c d:Nat}(h0:¬d<c)(h1:d<c):a<b:=absurd h1 h0
theorem JJ{a b:Int}{c:Nat}{d e:Int}(h0:(a+1≤b∧b<a+1+(↑c:Int))∧d≤e∧e<d+5):(a≤b∧b<a+(↑(c+1):Int))∧d≤e∧e<d+5:=⟨⟨Int.le_of_lt h0.1.1,Int.lt_of_lt_of_le h0.1.2 (Int.le_of_eq (by rw[Int.add_assoc,Int.add_comm 1];rfl))⟩,h0.2⟩
theorem JN{a:Int}{b:Nat}(h0:0≤a∧a<(↑b:Int)):Int.toNat a<b:=(Int.toNat_lt h0.1).mpr h0.2
theorem xQ{a b:Int}{c:Nat}:a<b+1+(↑c:Int)↔a<b+(↑(c+1):Int):=by rw[Int.add_assoc,Int.add_comm 1];rfl
theorem EV{a b:Int}{c:Nat}:a=a∧b≤b∧b<b+(↑(c+1):Int):=⟨rfl,Int.le_refl b,Int.lt_add_of_pos_right b (Int.ofNat_lt.mpr (Nat.succ_pos c))⟩
theorem EX{a:Nat}{b:Int}(h0:0≤b+(↑a:Int)): -(↑a:Int)≤b:=Int.le_of_sub_nonneg ((Int.sub_neg _ _).symm▸h0)
theorem EZ{a:Int}{b:Nat}(h0:0≤a∧a<(↑b:Int)):(↑(Int.toNat a):Int)=a:=Int.toNat_of_nonneg h0.1
theorem E0{a:Int}{b:Nat}:a<a+(↑(b+1):Int):=Int.lt_add_of_pos_right a (Int.ofNat_lt.mpr (Nat.succ_pos b))
theorem Ky{a:Nat}{b:Int}(h0:a<4096):a≤16777216+Int.toNat b:=Nat.le_trans (Nat.le_trans (Nat.le_of_lt h0) (by decide)) (Nat.le_add_right _ _)
theorem E4{a b:Int}{c:Nat}(h0:a=a∧b<b∧b<b+(↑c:Int)):False:=Int.lt_irrefl b h0.2.1
theorem KN{a:Nat}{b:Int}(h0: -(↑a:Int)≤b): -(↑a:Int)≤b:=by omega
theorem K9{a:Int}{b:Nat}(h0:(↑b:Int)-20=a)(h1:b<41): -20≤a∧a≤20:=h0▸⟨Int.le_sub_right_of_add_le (show -20+20≤(b:Int)from Int.natCast_nonneg b),Int.sub_right_le_of_le_add (show(b:Int)≤20+20 from Int.ofNat_le.mpr (Nat.le_of_lt_succ h1))⟩
theorem Lm: -21<0:=Int.natCast_nonneg _
theorem Lq:0≤64:=Nat.le_add_left _ _
theorem Bu{a:Int}{b:Nat}(h0:0≤a)(h1:a<(↑b:Int)):Int.toNat a<b:=(Int.toNat_lt h0).mpr h1
theorem LF{a b:Int}{c:Nat}{d e:Int}{f:Nat}(h0:f≤5)(h1:b=a∧d≤e∧e<d+(↑f:Int)):(a≤b∧b<a+(↑(c+1):Int))∧d≤e∧e<d+5:=⟨h1.1▸⟨Int.le_refl _,Int.lt_add_of_pos_right _ (Int.ofNat_lt.mpr (Nat.succ_pos c))⟩,h1.2.1,Int.lt_of_lt_of_le h1.2.2 (Int.add_le_add_left (Int.ofNat_le.mpr h0) d)⟩
section
open PySem.W PyProof.Rows
set_option genCtorIdx false
noncomputable abbrev P0:Program:=PySem.Challenge.pw_pf0191_01
noncomputable def PF(j:Nat):Stmt:=match P0.main.body.drop j with |s::_=>s|[]=>.Pass ⟨0,0,0,0⟩
noncomputable def A8:Arguments:=⟨[],[],none,[],[],none,[]⟩
noncomputable def Dw:Scope:=⟨.function,[],false,false,[]⟩
noncomputable def MG:Stmt→List Stmt×Arguments×Scope×Option Expr×Bool
 | .FunctionDef _ a b _ _ _ c _ _ _=>(b,a,c,none,false)
 | .ClassDef _ _ _ b _ _ _ _ _ _ _=>(b,A8,Dw,none,true)
 | .Return e _=>([],A8,Dw,e,false)
 | .If e _ _ _=>([],A8,Dw,some e,false)
 | .Assign _ e _=>([],A8,Dw,some e,false)
 |_=>([],A8,Dw,none,false)
noncomputable def Pu(k:Nat)(s:Stmt):Stmt:=match(MG s).2.2.2.2,(MG s).1.drop k with
 |true,s::_=>s
 |_,_=>s
noncomputable def C9(s:Stmt):Arguments:=(MG s).2.1
noncomputable def fQ(s:Stmt):List Stmt:=(MG s).1
noncomputable def nq(s:Stmt):Scope:=(MG s).2.2.1
structure oH where
 j:Nat
 k:Nat
 name:String
 qual:String
 mod:Nat
 at_:Addr
noncomputable def oH.st(r:oH):Stmt:=Pu r.k (PF r.j)
noncomputable def CW(m:Nat):Value:=match m with |0=>.str "outlinemill.errors" 187|1=>.str "outlinemill.spans" 234|2=>.str "outlinemill.regions" 389|_=>.str "law_pf0191_01" 569
noncomputable def oH.obj(r:oH):Obj:={cls:=.type "function",data:=.func (fnOf (Str.ofString r.name) (Str.ofString r.qual) (C9 r.st) (fQ r.st) (nq r.st) .none .none .none (CW r.mod) none (.ref (r.at_-1)) .none)}
noncomputable def kX:List oH:=[⟨4,99,"normal","normal",1,51⟩,
 ⟨5,99,"borders","borders",1,58⟩,
 ⟨6,99,"merged_borders","merged_borders",1,65⟩,
 ⟨7,0,"__init__","Walk.__init__",1,79⟩,
 ⟨7,1,"holds","Walk.holds",1,86⟩,
 ⟨8,99,"put_together","put_together",1,100⟩,
 ⟨9,99,"union","union",1,107⟩,
 ⟨10,99,"common","common",1,114⟩,
 ⟨11,99,"less","less",1,121⟩,
 ⟨12,99,"exclusive","exclusive",1,128⟩,
 ⟨13,99,"cut_to","cut_to",1,135⟩,
 ⟨14,99,"length","length",1,142⟩,
 ⟨15,99,"holds","holds",1,149⟩,
 ⟨17,99,"moved","moved",1,154⟩,
 ⟨19,0,"__init__","Region.__init__",2,166⟩,
 ⟨19,1,"spans","Region.spans",2,173⟩,
 ⟨19,2,"heights","Region.heights",2,180⟩,
 ⟨19,3,"is_empty","Region.is_empty",2,187⟩,
 ⟨19,4,"holds","Region.holds",2,194⟩,
 ⟨19,5,"area","Region.area",2,199⟩,
 ⟨19,6,"box","Region.box",2,204⟩,
 ⟨19,7,"like","Region.like",2,211⟩,
 ⟨20,99,"of_rectangle","of_rectangle",2,223⟩,
 ⟨21,99,"of_rows","of_rows",2,228⟩,
 ⟨22,99,"by_rows","by_rows",2,235⟩,
 ⟨23,99,"region_union","region_union",2,242⟩,
 ⟨24,99,"region_common","region_common",2,249⟩,
 ⟨25,99,"region_less","region_less",2,256⟩,
 ⟨26,99,"region_exclusive","region_exclusive",2,263⟩,
 ⟨27,99,"region_moved","region_moved",2,268⟩,
 ⟨28,99,"region_cut","region_cut",2,275⟩,
 ⟨29,99,"is_inside","is_inside",2,282⟩,
 ⟨30,99,"do_touch","do_touch",2,289⟩,
 ⟨31,99,"rim","rim",2,296⟩,
 ⟨33,99,"_law_pool","_law_pool",3,303⟩,
 ⟨34,99,"_law_take","_law_take",3,310⟩,
 ⟨35,99,"_law_one","_law_one",3,317⟩,
 ⟨37,99,"_law_drawn","_law_drawn",3,323⟩,
 ⟨38,99,"_law_dots","_law_dots",3,330⟩,
 ⟨39,99,"_law_made","_law_made",3,337⟩,
 ⟨40,99,"_law_is","_law_is",3,342⟩,
 ⟨41,99,"_law_holds_right","_law_holds_right",3,349⟩,
 ⟨42,99,"_law_turned","_law_turned",3,354⟩,
 ⟨43,99,"_law_pair_right","_law_pair_right",3,359⟩,
 ⟨44,99,"_law_alone_right","_law_alone_right",3,364⟩,
 ⟨45,99,"_law_refused","_law_refused",3,371⟩,
 ⟨46,99,"law","law",3,376⟩,
 ⟨1,0,"__init__","MillError.__init__",0,28⟩]
noncomputable def K0(P:Params):Frag:=(kX.map λr=>(r.at_,r.obj))++[(30,{cls:=.type "dict",data:=.dict #[{hash:=PyData.keyHash P "__module__",key:=.str "__module__" 196,val:=.str "outlinemill.errors" 187},{hash:=PyData.keyHash P "__firstlineno__",key:=.str "__firstlineno__" 200,val:=.int 2 199},{hash:=PyData.keyHash P "__init__",key:=.str "__init__" 208,val:=.ref 28},{hash:=PyData.keyHash P "__static_attributes__",key:=.str "__static_attributes__" 210,val:=.ref 29},{hash:=PyData.keyHash P "__weakref__",key:=.str "__weakref__" 212,val:=.ref 32},{hash:=PyData.keyHash P "__doc__",key:=.str "__doc__" 213,val:=.none}] 3}),
 (31,{cls:=.type "type",data:=.cls {name:=Str.ofString "MillError",bases:=[.type "Exception"],mro:=[.ref 31,.type "Exception",.type "BaseException",.type "object"],ns:=30,qualname:=Str.ofString "MillError",subclasses:=[.ref 44]},slots:=#[some (.ref 15),none,some (.str "MillError" 189),some (.str "MillError" 197),some (.builtin "Exception.__new__"),some (.bool true)]}),
 (43,{cls:=.type "dict",data:=.dict #[{hash:=PyData.keyHash P "__module__",key:=.str "__module__" 225,val:=.str "outlinemill.errors" 187},{hash:=PyData.keyHash P "__firstlineno__",key:=.str "__firstlineno__" 229,val:=.int 6 228},{hash:=PyData.keyHash P "__static_attributes__",key:=.str "__static_attributes__" 230,val:=.ref 42},{hash:=PyData.keyHash P "__doc__",key:=.str "__doc__" 231,val:=.none}] 2}),
 (44,{cls:=.type "type",data:=.cls {name:=Str.ofString "SizeFault",bases:=[.ref 31],mro:=[.ref 44,.ref 31,.type "Exception",.type "BaseException",.type "object"],ns:=43,qualname:=Str.ofString "SizeFault"},slots:=#[some (.ref 35),none,some (.str "SizeFault" 218),some (.str "SizeFault" 226),some (.builtin "Exception.__new__"),some (.bool true)]}),
 (88,{cls:=.type "dict",data:=.dict #[{hash:=PyData.keyHash P "__module__",key:=.str "__module__" 273,val:=.str "outlinemill.spans" 234},{hash:=PyData.keyHash P "__firstlineno__",key:=.str "__firstlineno__" 277,val:=.int 38 276},{hash:=PyData.keyHash P "__init__",key:=.str "__init__" 285,val:=.ref 79},{hash:=PyData.keyHash P "holds",key:=.str "holds" 293,val:=.ref 86},{hash:=PyData.keyHash P "__static_attributes__",key:=.str "__static_attributes__" 296,val:=.ref 87},{hash:=PyData.keyHash P "__dict__",key:=.str "__dict__" 298,val:=.ref 90},{hash:=PyData.keyHash P "__weakref__",key:=.str "__weakref__" 300,val:=.ref 91},{hash:=PyData.keyHash P "__doc__",key:=.str "__doc__" 301,val:=.none}] 4}),
 (89,{cls:=.type "type",data:=.cls {name:=Str.ofString "Walk",bases:=[.type "object"],mro:=[.ref 89,.type "object"],ns:=88,qualname:=Str.ofString "Walk"},slots:=#[none,none,some (.str "Walk" 266),some (.str "Walk" 274),some (.builtin "object.__new__"),some (.bool true)]}),
 (213,{cls:=.type "dict",data:=.dict #[{hash:=PyData.keyHash P "__module__",key:=.str "__module__" 398,val:=.str "outlinemill.regions" 389},{hash:=PyData.keyHash P "__firstlineno__",key:=.str "__firstlineno__" 402,val:=.int 88 401},{hash:=PyData.keyHash P "__init__",key:=.str "__init__" 408,val:=.ref 166},{hash:=PyData.keyHash P "spans",key:=.str "spans" 416,val:=.ref 173},{hash:=PyData.keyHash P "heights",key:=.str "heights" 423,val:=.ref 180},{hash:=PyData.keyHash P "is_empty",key:=.str "is_empty" 430,val:=.ref 187},{hash:=PyData.keyHash P "holds",key:=.str "holds" 439,val:=.ref 194},{hash:=PyData.keyHash P "area",key:=.str "area" 445,val:=.ref 199},{hash:=PyData.keyHash P "box",key:=.str "box" 451,val:=.ref 204},{hash:=PyData.keyHash P "like",key:=.str "like" 459,val:=.ref 211},{hash:=PyData.keyHash P "__static_attributes__",key:=.str "__static_attributes__" 461,val:=.ref 212},{hash:=PyData.keyHash P "__dict__",key:=.str "__dict__" 463,val:=.ref 215},{hash:=PyData.keyHash P "__weakref__",key:=.str "__weakref__" 465,val:=.ref 216},{hash:=PyData.keyHash P "__doc__",key:=.str "__doc__" 466,val:=.none}] 4}),
 (214,{cls:=.type "type",data:=.cls {name:=Str.ofString "Region",bases:=[.type "object"],mro:=[.ref 214,.type "object"],ns:=213,qualname:=Str.ofString "Region"},slots:=#[none,none,some (.str "Region" 391),some (.str "Region" 399),some (.builtin "object.__new__"),some (.bool true)]}),
 (318,{cls:=.type "list",data:=.seq #[.str "" 599,.str "....." 600,.str "#...." 601,.str "##.##" 602,.str "#####" 603,.str ".###." 604,.str "#.#.#" 605,.str "....#" 606,.str "#####" 607,.str ".###." 608]})]
noncomputable def as0:List Addr:=[51,58,65,79,86,100,107,114,121,128,135,142,149,154,166,173,180,187,194,199,204,211,223,228,235,242,249,256,263,268,275,282,289,296,303,310,317,323,330,337,342,349,354,359,364,371,376,28,30,31,43,44,88,89,213,214,318]
noncomputable def nh:List (Str×Addr):=[(Str.ofString "normal",51),(Str.ofString "borders",58),(Str.ofString "merged_borders",65),(Str.ofString "put_together",100),(Str.ofString "union",107),(Str.ofString "common",114),(Str.ofString "less",121),(Str.ofString "exclusive",128),(Str.ofString "cut_to",135),(Str.ofString "length",142),(Str.ofString "holds",149),(Str.ofString "moved",154),(Str.ofString "of_rectangle",223),(Str.ofString "of_rows",228),(Str.ofString "by_rows",235),(Str.ofString "region_union",242),(Str.ofString "region_common",249),(Str.ofString "region_less",256),(Str.ofString "region_exclusive",263),(Str.ofString "region_moved",268),(Str.ofString "region_cut",275),(Str.ofString "is_inside",282),(Str.ofString "do_touch",289),(Str.ofString "rim",296),(Str.ofString "_law_pool",303),(Str.ofString "_law_take",310),(Str.ofString "_law_one",317),(Str.ofString "_law_drawn",323),(Str.ofString "_law_dots",330),(Str.ofString "_law_made",337),(Str.ofString "_law_is",342),(Str.ofString "_law_holds_right",349),(Str.ofString "_law_turned",354),(Str.ofString "_law_pair_right",359),(Str.ofString "_law_alone_right",364),(Str.ofString "_law_refused",371),(Str.ofString "law",376),(Str.ofString "Walk",89),(Str.ofString "Region",214),(Str.ofString "SizeFault",44),(Str.ofString "_law_signs",318),(Str.ofString "holds_spans",149)]
noncomputable def pL:List Str:=[Str.ofString "sorted",Str.ofString "int",Str.ofString "len",Str.ofString "range",Str.ofString "enumerate",Str.ofString "max",Str.ofString "min",Str.ofString "sum",Str.ofString "list",Str.ofString "dict",Str.ofString "set"]
end
section
open PySem.W PyProof.Rows PySem.Calls
structure gq where
 params:Arguments
 body:Expr
 scope:Scope
 deriving Inhabited
noncomputable def k8(g:Nat):Stmt:=match kX.drop g with |r::_=>r.st|[]=>.Pass ⟨0,0,0,0⟩
noncomputable def HB(g:Nat):String:=match kX.drop g with |r::_=>r.qual|[]=>""
noncomputable def N9:Expr→List Expr×List Expr×Option Scope×Option gq
 | .Call _ l ks _=>(l,ks.map (λx=>x.value),none,none)
 | .Compare a _ l _=>(a::l,[],none,none)
 | .List l _=>(l,[],none,none)
 | .Lambda p b s _=>([],[],none,some ⟨p,b,s⟩)
 | .ListComp _ _ s _=>([],[],some s,none)
 |_=>([],[],none,none)
noncomputable def Gf(l:List Stmt):Option Expr:=l.head?.bind λs=>(MG s).2.2.2.1
noncomputable def G6(k:Nat)(o:Option Expr):Option Expr:=o.bind λe=>(N9 e).1[k]?
noncomputable def Mf(o:Option Expr):gq:=(o.bind λe=>(N9 e).2.2.2).getD default
noncomputable def CG(l:List Stmt):gq:=Mf (G6 2 (Gf l))
noncomputable def Pn(l:List Stmt):gq:=Mf ((G6 1 (Gf l)).bind λe=>(N9 e).2.1[0]?)
noncomputable def Me(k:Nat)(l:List Stmt):gq:=Mf (G6 k (Gf l))
noncomputable def fh:Nat→gq
 |0=>CG (fQ (k8 6))|1=>CG (fQ (k8 7))|2=>CG (fQ (k8 8))|3=>CG (fQ (k8 9))
 |4=>CG ((fQ (k8 39)).drop 2)|5=>Pn ((fQ (k8 40)).drop 1)
 |6=>Me 0 ((fQ (k8 46)).drop 7)|7=>Me 1 ((fQ (k8 46)).drop 7)|8=>Me 2 ((fQ (k8 46)).drop 7)
 |_=>default
noncomputable def ME:List Value:=[.type "Exception",.type "BaseException",.type "object"]
noncomputable abbrev oS:Obj:=excClassObj (Str.ofString "SizeFault") (Str.ofString "SizeFault") 44 43 [.ref 31] (.ref 31::ME) true [] [] false none none (some (.ref 35)) none (some (.str "SizeFault" 218)) (some (.str "SizeFault" 226)) (some (.bool true)) "Exception.__new__"
theorem yq(X:(K0 P).In h):h.get? 44=some oS:=X 44 _ (by kernel_rfl)
noncomputable abbrev iC(t:Addr):Obj:={cls:=.ref 44,data:=.fields #[.ref t,.none,.none,.none,.bool false,.none]}
section
variable{w:World}{A:Around}{E:Value→Shared→Prop}{R:Result→Shared→Prop}{h:Heap}{g:Array GenState}{d:Drawn}{t:Nat}{os:OsState}{P:Params}
theorem zA(c:h.get? 44=some oS)(f:R (.ok (.ret (.ref (h.objs.size+1)))) ⟨(h.push {cls:=.type "tuple",data:=.seq rest.toArray}).push (iC h.objs.size),g,d,t,os⟩)(a:rest.length≤sizeLine:=by size_fits):
  codeAny (model P0 w) A (.builtin "Exception.__new__" ⟨.ref 44::rest,[]⟩) R ⟨h,g,d,t,os⟩:=by
 have F:=PySem.F.excBase_Exception;have k:(Value.ref 44:: .ref 31::ME).contains (.type "Exception")=true:=by rfl
 have j:(Value.ref 44:: .ref 31::ME).contains (.type "AttributeError")=false:=by rfl
 have i:(Value.ref 44:: .ref 31::ME).contains (.type "NameError")=false:=by rfl
 have b:=F.ends;refine codeAny_builtinAt F.entry ?_;unfold Builtin.«BaseException.__new__»;refine PySem.wpAt_bind ?_;refine PySem.wpAt_bind (PySem.wpAt_stack λp e=>PySem.wpAt_of_wpAny ?_)
 wp_walk
 refine PySem.wpAt_of_wpAny ?_;refine rl F.owner ?_;repeat (first|with_reducible refine wpAny_madeHere_exc F.canon c ?_|with_reducible refine wpAny_loadPart_at c ?_|(with_reducible refine wpAny_isSubtype_exc c ?_;first|refine rl k ?_|refine rl j ?_|refine rl i ?_)|wp_step)
 show R _ _;rw[Heap.size_push];exact f
theorem qV:findIn (K0 P) (.ref 44) "__setattr__"=some (some (.builtin "object.__setattr__")):=by kernel_rfl
theorem qU:findIn (K0 P) (.ref 44) "message"=some none:=by kernel_rfl
theorem wG{c:List Value}(X:(K0 w.params).In h)(k:c.length≤sizeLine)
  (C:∀h1 (e:Addr),(∀b o,h.get? b=some o→h1.get? b=some o)→h.get? e=none→(∃t0,h1.get? e=some (iC t0))→
   wpAny (model P0 w) (A.under (.builtin "type.__call__" ⟨.ref 44::c,[]⟩)) (call (.ref 28) (.ref e::c)) (λr l=>r= .none∧R (.ok (.ret (.ref e))) l) (λx l=>R (.error x) l) ⟨h1,g,d,t,os⟩):
  codeAny (model P0 w) A (.call (.ref 44) ⟨c,[]⟩) R ⟨h,g,d,t,os⟩:=by
 have F:=PySem.F.excBase_Exception;have j:=yq X;have J:=tc_lookup;have I:=tc_bind (.ref 44);have H:(⟨h,g,d,t,os⟩:Shared).TypeIs (.ref 44) "type":=⟨_,j,rfl⟩;refine codeAny_of_tree ?_;show wpAny _ _ (callAny (.ref 44) _) _ _ _;repeat (any_goals (first|assumption|with_reducible refine wpAny_loadPart_at j ?_|wp_step))
 refine⟨rfl,?_⟩;refine codeAny_call_builtin_at (Code.quiet_builtin _ (by decide+kernel)) entry_typeCall (wpAny_check_type_call_sub j ?_);show wpAny _ _ (Builtin.«type.__call__» ⟨.ref 44::c,[]⟩) _ _ _;repeat (first|with_reducible refine wpAny_loadPart_at j ?_|with_reducible refine wpAny_madeBy_exc j ?_|wp_step)
 refine codeAny_call_builtin_code (Code.quiet_builtin _ F.quiet) (wpAny_check_new_subU F (by rfl) .base j ?_);refine zA j ?_ k;skip;have m:∀b o,h.get? b=some o→((h.push {cls:=.type "tuple",data:=.seq c.toArray}).push {cls:=.ref 44,data:=.fields #[.ref h.objs.size,.none,.none,.none,.bool false,.none]}).get? b=some o:=λb o e=>Heap.get?_push_of_some _ (Heap.get?_push_of_some _ e);have p:=m _ _ j;have v:(K0 w.params).In ((h.push {cls:=.type "tuple",data:=.seq c.toArray}).push {cls:=.ref 44,data:=.fields #[.ref h.objs.size,.none,.none,.none,.bool false,.none]}):=λa o e=>m _ _ (X a o e);have i:((h.push {cls:=.type "tuple",data:=.seq c.toArray}).push {cls:=.ref 44,data:=.fields #[.ref h.objs.size,.none,.none,.none,.bool false,.none]}).get? (h.objs.size+1)=some {cls:=.ref 44,data:=.fields #[.ref h.objs.size,.none,.none,.none,.bool false,.none]}:=by heap_get
 have n:(Value.ref 44:: .ref 31::ME).contains (.ref 44)=true:=by rfl
 unfold isInstance;repeat (first|with_reducible refine wpAny_loadPart_at i ?_|(with_reducible refine wpAny_isSubtype_exc p ?_;refine rl n ?_)|wp_step)
 show wpAny _ _ (typeLookup (.ref 44) _) _ _ _;have G:Looks (model P0 w) ((h.push {cls:=.type "tuple",data:=.seq c.toArray}).push {cls:=.ref 44,data:=.fields #[.ref h.objs.size,.none,.none,.none,.bool false,.none]}) (typeLookup (.ref 44) "__init__") (some (.ref 28)):=looks_findIn v (by rfl);obtain⟨z,q,s⟩:∃o,(K0 w.params).lookup 28=some o∧o.cls= .type "function":=Option.map_eq_some_iff.mp (show((K0 w.params).lookup 28).map (λx=>x.cls)=some (.type "function")from by rfl);refine G.here ?_;refine wpAny_holding (wpAny_bind ?_);unfold bindSpecial;refine wpAny_bind (wpAny_typeOf (T:="function") ⟨_,v _ _ q,s⟩ ?_);refine rl (if_pos (by rfl)) ?_;refine wpAny_pure (wpAny_bind (wpAny_mono (C _ (h.objs.size+1) m (Heap.get?_none_of_le (Nat.le_succ _)) ⟨_,i⟩) (λr l B=>?_) λy y x=>x));obtain⟨rfl,D⟩:=B
 wp_walk
 exact D
end
section
open Builtin Builtin.ObjectAttr
section
variable{w:World}{A:Around}{E:Value→Shared→Prop}{R:Result→Shared→Prop}{s:Shared}{P:Params}
theorem NN:mroIn (K0 P) 44 (.type "object")=some true:=by kernel_rfl
theorem pF(a:h.get? e=some (iC t0)):InstAt h e (iC t0) 44 none:=⟨a,rfl,rfl,trivial⟩
theorem zB(X:(K0 w.params).In s.heap)(u:s.heap.get? e=some (iC t0))
  (F:∀h' tk',(∀b o,b≠e→s.heap.get? b=some o→h'.get? b=some o)→(∃dx,h'.get? e=some {iC t0 with dict:=some dx})→R (.ok (.ret .none)) {s with heap:=h',toks:=tk'}):codeAny (model P0 w) A (.call (.builtin "object.__setattr__") ⟨[.ref e,.str "message" tk,v],[]⟩) R s:=by
 have I:=pF u;have k:=PySem.F.store_object;have z:=PySem.F.store_Exception;have l:Looks (model P0 w) s.heap (isInstance (.ref e) (.type "object")) true:=I.type.andThen (looks_mroIn X NN);refine codeAny_call_builtin k.slot.plain k.entry (@check_slot (model P0 w) _ _ s "object.__setattr__" "object" "__setattr__" (.ref e) [.str "message" tk,v] [] _ k.kind k.split l (k.args (.ref e) (.str "message" tk) v) ?_);clear k l;obtain⟨cd,y,r⟩:∃cd,clsIn (K0 w.params) 44=some cd∧cd.mro=[.ref 44,.ref 31,.type "Exception",.type "BaseException",.type "object"]:=by
  have e:(clsIn (K0 w.params) 44).map (λx=>x.mro)=some [.ref 44,.ref 31,.type "Exception",.type "BaseException",.type "object"]:=by rfl
  exact Option.map_eq_some_iff.mp e
 have B:Looks (model P0 w) s.heap (mroOf (.ref 44)) cd.mro:=(looks_clsIn X y).andThen .now;rw[osa_eq,refuse_eq];refine wpAny_bind (wpAny_bind (I.type.here (wpAny_bind (B.here ?_))));rw[r,refuseLoop_ref,refuseLoop_ref,z.passes];refine wpAny_pure (wpAny_bind (I.type.here (wpAny_bind ((looks_findIn X qU).here (wpAny_bind ?_)))));refine wpAny_pure ?_;clear I z y r B;obtain⟨h,g,d,t,L⟩:=s;have c:h.get? e=some {cls:=.ref 44,data:=.fields #[.ref t0,.none,.none,.none,.bool false,.none]}:=u;have p:h.get? 44=some oS:=yq X;unfold storeInOwnDict ownDictForStores instanceDict;repeat (first|with_reducible refine wpAny_loadPart_at c ?_|with_reducible refine wpAny_loadPart_at p ?_|wp_step)
 have D:(Heap.update (h.push {cls:=.type "dict",data:=.dict #[]}) e λo=>{cls:=o.cls,dict:=some h.objs.size,data:=o.data,slots:=o.slots}).get? h.objs.size=some {cls:=.type "dict",data:=.dict #[]}:=by refine rl (Heap.get?_update_ne _ _ _ _ (Nat.ne_of_lt (Heap.lt_size c)).symm) ?_;exact Heap.get?_push_at rfl rfl
 refine wpAny_askSetting (wpAny_pure (wpAny_bind (wpAny_mkText (wpAny_bind (wpAny_loadPart D ?_)))));dsimp only;rw[aRefKeyMayBeTheName_at,show(!(#[]:Array DictEntry).any (λx=>x.key.isStr (Str.ofString "message"))&&(#[]:Array DictEntry).any (λx=>x.refKey))=false by simp];generalize (if(Str.ofString "message").cps.isEmpty=true then 0 else reduceHash ((model P0 w).w.params.strHash (Str.ofString "message").cps))=hs;obtain⟨es,n,J,H⟩:∃es n,(Obj.putName (Str.ofString "message") hs (.str (Str.ofString "message") t) v {cls:=.type "dict",data:=.dict #[]}).data= .dict es n∧es.size≤1:=(fu _ _ ⟨rfl,Nat.le_refl _⟩);have K:=Heap.get?_update_self (Obj.putName (Str.ofString "message") hs (.str (Str.ofString "message") t) v) D rfl;refine wpAny_updatePart D ?_;refine wpAny_bind (wpAny_lookBehind K (by refine rl J ?_;exact pastItsLine_dict (rl sizeLine_eq (KI H))) ?_);have xs:=Nat.ne_of_lt (Heap.lt_size c);refine wpAny_pure (F _ _ (λb o G m=>?_) ⟨h.objs.size,?_⟩)
 ·refine rl (Heap.get?_update_ne _ _ _ _ (Nat.ne_of_lt (Heap.lt_size m))) ?_;refine rl (Heap.get?_update_ne _ _ _ _ G) ?_;exact Heap.get?_push_of_some _ m
 ·refine rl (Heap.get?_update_ne _ _ _ _ xs) ?_;exact Heap.get?_update_self _ (Heap.get?_push_of_some _ c) rfl
theorem um(X:(K0 w.params).In s.heap)(a:s.heap.get? e=some (iC t0))
  (c:∀h' tk',(∀b o,b≠e→s.heap.get? b=some o→h'.get? b=some o)→(∃dx,h'.get? e=some {iC t0 with dict:=some dx})→Q () {s with heap:=h',toks:=tk'}):wpAny (model P0 w) A (setAttr (.ref e) "message" v) Q E s:=
 set_plain X (pF a) qV (zB X a c)
end
end
noncomputable def Di:oH:=⟨1,0,"__init__","MillError.__init__",0,28⟩
theorem Mu(P:Params):(K0 P).lookup 28=some Di.obj:=by kernel_rfl
theorem Dj:∃p1 p2 p3 p4,fQ Di.st=[.Assign [.Attribute (.Name (Str.ofString "self") p1) (Str.ofString "message") p2] (.Name (Str.ofString "message") p3) p4]:=(jC _ _ _ _ rfl)
noncomputable abbrev O7:FuncData:=fnOf (Str.ofString Di.name) (Str.ofString Di.qual) (C9 Di.st) (fQ Di.st) (nq Di.st) .none .none .none (CW Di.mod) none (.ref (Di.at_-1)) .none
section
variable{w:World}{A:Around}{E:Value→Shared→Prop}{s:Shared}
theorem zC{e i:Addr}(c:A.depth<recursionLimit)(X:(K0 w.params).In s.heap)(n:s.heap.NoLimit)(l:s.heap.CodeRec (.ref 27) (Str.ofString "MillError.__init__"))(r:s.heap.get? e=some (iC i))
  (q:∀h' tk',(∀b o,b≠e→s.heap.get? b=some o→h'.get? b=some o)→(∃dx,h'.get? e=some {iC i with dict:=some dx})→Q .none {s with heap:=h',toks:=tk'}):
  wpAny (model P0 w) A (call (.ref 28) [.ref e,v]) Q E s:=by
 refine wpAny_call (codeAny_call_plain (fd:=O7) (binds:=[(Str.ofString "self",.ref e),(Str.ofString "message",v)]) c (X _ _ (Mu _)) rfl n l rfl rfl ?_ ?_ (λH j g=>?_) (by rfl) (by rfl) (by kernel_rfl))
 ·have:(nq Di.st).names.all (λx=>match x.2 with | .cell=>false|_=>true)=true:=by rfl
  intro x d u;have:=List.all_eq_true.mp this x d;replace this:=u▸this;cases this
 ·refineλx d=>Or.elim (List.mem_cons.mp d) (λk=>?_) λd=>?_
  ·subst k;rfl
  ·refine rl (List.mem_singleton.mp d) ?_;rfl
 ·refine MN Dj λG F D C B=>rl B ?_;refine wpAny_execs_cons (plainObj_wpAny_Assign_Attribute (ldc (by kernel_rfl) (by rfl) j (by rfl) ?_ (by decide+kernel)) rfl);refine ldc (by kernel_rfl) (by rfl) j (by rfl) ?_ (by decide+kernel);exact um (λa o x=>g _ _ (X a o x)) (g _ _ r) λz f p m=>aT m λdx t=>wpAny_execs_nil (q z f (λb o y h=>p b o y (g b o h)) ⟨dx,t⟩)
end
section
variable{w:World}{A:Around}{E:Value→Shared→Prop}{R:Result→Shared→Prop}{s:Shared}{env:Env}
noncomputable abbrev pD(t dx:Addr):Obj:={cls:=.ref 44,dict:=some dx,data:=.fields #[.ref t,.none,.none,.none,.bool false,.none]}
theorem wH(f:A.depth+1<recursionLimit)(X:(K0 w.params).In s.heap)(q:s.heap.NoLimit)(p:s.heap.CodeRec (.ref 27) (Str.ofString "MillError.__init__"))
  (u:∀h' tk' e t0 dx,(∀b o,s.heap.get? b=some o→h'.get? b=some o)→s.heap.get? e=none→h'.get? e=some (pD t0 dx)→R (.ok (.ret (.ref e))) {s with heap:=h',toks:=tk'}):
  codeAny (model P0 w) A (.call (.ref 44) ⟨[v],[]⟩) R s:=by
 obtain⟨h,g,d,t,D⟩:=s;refine wG X (show 1≤sizeLine by decide+kernel) λF e j n l=>aT l λt0 y=>zC ?_ (λa o x=>j _ _ (X a o x)) (q.keeps j) (p.keeps j) y λC k r l=>aT l λdx B=>⟨rfl,u C k e t0 dx (λb o i=>r b o (λz=>by replace i:=z▸i;replace i:=n▸i;cases i) (j b o i)) n B⟩;exact f
theorem nV(k:A.handled=none)
  (h:wpAny (model P0 w) A x (λv a=>∃e t0 dx,v= .ref e∧a.heap.get? 44=some oS∧a.heap.get? e=some (pD t0 dx)∧E (.ref e) a) E s):wpAny (model P0 w) A (raiseStmt env (some x) none) Q E s:=by
 have f:(Value.ref 44:: .ref 31::ME).contains (.type "BaseException")=true:=by rfl
 unfold raiseStmt;refine wpAny_bind (wpAny_mono h (λv a b=>?_) λj j x=>x);refine iL b λe t0 dx c i l m=>?_;clear h b;subst c;obtain⟨o,g,d,tk,n⟩:=a;repeat (first|with_reducible refine wpAny_loadPart_at l ?_|with_reducible refine wpAny_loadPart_at i ?_|(with_reducible refine wpAny_isSubtype_exc i ?_;refine rl f ?_)|wp_step)
 exact wpAny_raiseNew_none k m
end
end
section
variable{α β γ δ:Type}
noncomputable def b1(o:Option α)(f:α→Option β):Option β:=match o with |some x=>f x|none=>none
noncomputable def u2(f:α→β→Option γ)(x:α×β):Option γ:=f x.1 x.2
noncomputable def u3(f:α→β→γ→Option δ)(x:α×β×γ):Option δ:=f x.1 x.2.1 x.2.2
noncomputable def b2(o:Option (α×β))(f:α→β→Option γ):Option γ:=b1 o (u2 f)
noncomputable def b3(o:Option (α×β×γ))(f:α→β→γ→Option δ):Option δ:=b1 o (u3 f)
noncomputable def gd(c:Bool)(x:Option α):Option α:=match c with |true=>x|false=>none
theorem az{o:Option α}{P:Prop}(h:b1 o f=some r)(k:∀x,o=some x→f x=some r→P):P:=match o,h,k with
 |some x,h,k=>k x rfl h
theorem au{f:α→β→Option γ}{P:Prop}(h:b2 o f=some r)(k:∀x y,o=some (x,y)→f x y=some r→P):P:=az h λx=>k x.1 x.2
theorem oY{o:Option (α×β×γ)}{r:δ}{P:Prop}(h:b3 o f=some r)(k:∀x y z,o=some (x,y,z)→f x y z=some r→P):P:=az h λx=>k x.1 x.2.1 x.2.2
theorem aS{c:Bool}{P:Prop}(h:gd c x=some r)(k:c=true→x=some r→P):P:=match c,h,k with
 |true,h,k=>k rfl h
theorem aR{o:Option α}(h:o=some x)(k:f x=r):b1 o f=r:=h▸k
theorem aF{f:α→β→Option γ}(h:o=some (x,y))(k:f x y=r):b2 o f=r:=h▸k
theorem tY{o:Option (α×β×γ)}(h:o=some (x,y,z))(k:f x y z=r):b3 o f=r:=h▸k
theorem bI{r:Option α}(h:c=true)(k:x=r):gd c x=r:=h▸k
theorem LU{z:α}(h:cond true x y=z):x=z:=h
theorem OX{z:α}(h:cond false x y=z):y=z:=h
theorem jU{g:α→Option β}{P:List β→Prop}(e:(x::l).mapM g=some r)(k:∀y r',g x=some y→l.mapM g=some r'→P (y::r')):P r:=by rw[List.mapM_cons]at e;exact ay (Option.bind_eq_some_iff.mp e) λy b e=>ay (Option.bind_eq_some_iff.mp e) λr' a e=>Option.some.inj e▸k y r' b a
theorem no{b:α}{P:Prop}(h:none=some b):P:=nomatch h
theorem on{b:α}{P:Prop}(h:some b=none):P:=nomatch h
theorem mE{q:Prop}(h:p):ite (true=true) p q:=h
theorem mD{q:Prop}(h:q):ite (false=true) p q:=h
theorem ft{P:Prop}(h:false=true):P:=nomatch h
theorem tf{P:Prop}(h:true=false):P:=nomatch h
@[elab_as_elim] theorem one{a b:α}{d:α→Prop}(h:some a=some b)(p:d a):d b:=Option.some.inj h▸p
@[elab_as_elim] theorem two{a b:α}{c d:β}{e:α→β→Prop}(h:some (a,c)=some (b,d))(p:e a c):e b d:=by cases h;exact p
@[elab_as_elim] theorem three{a b:α}{c d:β}{e f:γ}{i:α→β→γ→Prop}(h:some (a,c,e)=some (b,d,f))(p:i a c e):i b d f:=by cases h;exact p
end
set_option genCtorIdx true
inductive D where
 |none
 |bool (b:Bool)
 |int (i:Int)
 |str (s:Str)
 |tup (l:List D)
 |lst (l:List D)
 |dct (l:List (Int×D))
 |inst (c:Nat) (fs:List (Nat×D))
 |fn (g:Nat)
 |ie (k:Nat) (bL:List (Nat×D))
 deriving Inhabited
inductive V where
 |d (x:D)
 |loc (k:Nat)
 deriving Inhabited
set_option genCtorIdx false
inductive Cell where
 |lst (l:List D)
 |dct (l:List (Int×D))
 |inst (c:Nat) (fs:List (Nat×V))
 |eE (x:D)
 deriving Inhabited
inductive AR where
 |d (x:D)
 |c (x:Cell)
 deriving Inhabited
set_option genCtorIdx true in
inductive MJ where |add|sub|mul|fdiv|mod|pow
set_option genCtorIdx true in
inductive HH where |eq|ne|lt|le|gt|ge|isin|iW|is
set_option genCtorIdx true in
inductive N8 where |int|len|sorted|jm|list|dict|sum|min|max|max2
mutual
inductive T where
 |var (x:Nat)
 |none|bool (b:Bool)|int (i:Int)|str (s:String)
 |glob (g:Nat)
 |signs
 |bin (o:MJ) (a b:T)
 |not (a:T)
 |and (l:Ts)
 |or (l:Ts)
 |cmp (o:HH) (a b:T)
 |ud (o1 o2:HH) (a b c:T)
 |Nx (c a b:T)
 |tup (l:Ts)
 |lst (l:Ts)
 |dct (ks:List Int) (l:Ts)
 |attr (a:T) (f:Nat)
 |sub (a i:T)
 |ue (a hi:T)
 |mj (a lo:T)
 |rev (a:T)
 |call (g:Nat) (l:Ts)
 |new (c:Nat) (l:Ts)
 |kU (x:Nat) (l:Ts)
 |di (m:Nat) (a:T) (l:Ts)
 |blt (b:N8) (l:Ts)
 |rK (k:Nat) (a:T)
 |get (a k e:T)
 |join (a:T)
 |comp (ck:List Nat) (e:T) (g:Gs)
 |lam (k:Nat) (bL:List Nat)
inductive Ts where
 |nil
 |cons (a:T) (r:Ts)
inductive It where
 |of (a:T)
 |u7 (b:T)
 |iH (a b:T)
 |uf (a:T)
 |iq (x:Nat)
inductive Gs where
 |nil
 |cons (xs:List Nat) (it:It) (ifs:Ts) (r:Gs)
end
mutual
inductive S where
 |asg (x:Nat) (e:T)
 |v5 (xs:List Nat) (e:T)
 |lW (xs:List Nat) (cg:List Bool) (es:Ts)
 |qh (x:Nat) (e:T)
 |yC (x f:Nat) (e:T)
 |xh (x f:Nat)
 |jv (a i e:T)
 |aug (x:Nat) (e:T)
 |su (x f:Nat) (e:T)
 |app (x:Nat) (e:T)
 |jQ (xs:List Nat) (it:It) (b:Ss)
 |lO (c:T) (b:Ss)
 |i6 (c:T) (a b:Ss)
 |ret (e:T)
 |GJ (e:T)
 |cont
 |raise
inductive Ss where
 |nil
 |cons (a:S) (r:Ss)
end
structure bq where
 params:List Nat
 cg:List Bool
 body:Ss
structure eA where
 params:List Nat
 bL:List Nat
 body:T
structure Sem where
 call:Nat→List AR→Option (AR×List Cell)
 new:Nat→List AR→Option AR
 lam:Nat→List (Nat×D)→List D→Option D
 cg:Nat→List Bool
 di:Nat→Nat→Option Nat
 signs:List D
noncomputable abbrev aB:=List (Nat×V)
noncomputable abbrev ak:=List Cell
mutual
noncomputable def D.py:D→PyData
 | .none=>.none
 | .bool b=>.bool b
 | .int i=>.int i
 | .str x=>.str x
 | .tup l=>.tuple (D.tu l)
 | .lst l=>.list (D.tu l)
 |_=>.none
noncomputable def D.tu:List D→List PyData
 |[]=>[]
 |d::l=>D.py d::D.tu l
end
mutual
noncomputable def iu:Nat→D→Bool
 |_,.none=>true
 |_,.bool _=>true
 |_,.int _=>true
 |_,.str x=>PyData.strOk x
 |n+1,.tup l=>b7 n l
 |n+1,.lst l=>b7 n l
 |_,_=>false
noncomputable def b7:Nat→List D→Bool
 |_,[]=>true
 |n,d::l=>iu n d&&b7 n l
end
noncomputable def c9:D→Option Int
 | .int i=>some i
 |_=>none
noncomputable def Hj:D→Option Str
 | .str s=>some s
 |_=>none
noncomputable def dL:D→Option (List D)
 | .lst l=>some l
 |_=>none
noncomputable def dT:D→Option (List D)
 | .tup l=>some l
 |_=>none
noncomputable def dM:D→Option (List (Int×D))
 | .dct l=>some l
 |_=>none
theorem int_inv{P:Prop}(e:b1 (c9 x) f=some z)(k:∀i,x= .int i→f i=some z→P):P:=by
 cases x with
 |int i=>exact k i rfl e
 |_=>exact no e
theorem str_inv{P:Prop}(e:b1 (Hj x) f=some z)(k:∀i,x= .str i→f i=some z→P):P:=by
 cases x with
 |str i=>exact k i rfl e
 |_=>exact no e
theorem jM{P:Prop}(e:b1 (dL x) f=some z)(k:∀l,x= .lst l→f l=some z→P):P:=by
 cases x with
 |lst l=>exact k l rfl e
 |_=>exact no e
theorem BY{P:Prop}(e:b1 (dT x) f=some z)(k:∀l,x= .tup l→f l=some z→P):P:=by
 cases x with
 |tup l=>exact k l rfl e
 |_=>exact no e
theorem BX{P:Prop}(e:b1 (dM x) f=some z)(k:∀l,x= .dct l→f l=some z→P):P:=by
 cases x with
 |dct l=>exact k l rfl e
 |_=>exact no e
noncomputable def RJ(l m:List (Int×D)):Option Bool:=cond (decide (l.length=m.length)) (gd (b7 8 (l.map (λx=>x.2))&&b7 8 (m.map (λx=>x.2))) (some (l.all λp=>match m.lookup p.1 with |some x=>PyData.eqv p.2.py x.py|none=>false))) (some false)
noncomputable def P7(a b:D):Option Bool:=gd (iu 8 a&&iu 8 b) (some (PyData.eqv a.py b.py))
noncomputable def Am(a b:D):Option Bool:=match a with
 | .dct l=>b1 (dM b) (RJ l)
 |a=>P7 a b
noncomputable def N7:Cell→Option D
 | .lst l=>some (.lst l)
 | .dct l=>some (.dct l)
 | .eE x=>some x
 | .inst _ _=>none
noncomputable def view(σ:ak):V→Option D
 | .d x=>some x
 | .loc k=>b1 σ[k]? N7
noncomputable def wI(σ:ak)(p:Nat×V):Option (Nat×D):=b1 (view σ p.2) λd=>some (p.1,d)
noncomputable def Cell.data(σ:ak):Cell→Option D
 | .lst l=>some (.lst l)
 | .dct l=>some (.dct l)
 | .eE x=>some x
 | .inst c fs=>b1 (fs.mapM (wI σ)) λgs=>some (.inst c gs)
noncomputable def toD(σ:ak):V→Option (D×ak)
 | .d x=>some (x,σ)
 | .loc k=>b1 σ[k]? λc=>b1 (c.data []) λx=>some (x,σ.set k (.eE x))
noncomputable def AR.data:AR→Option D
 | .d x=>some x
 | .c x=>x.data []
noncomputable def lim:Nat:=4096
noncomputable def fits(n:Nat):Bool:=Nat.blt n lim
noncomputable def fm(l:List (Int×D))(k:Int)(v:D):List (Int×D):=match l with
 |[]=>[(k,v)]
 |p::r=>match decide (p.1=k)with
  |true=>(k,v)::r
  |false=>p::fm r k v
noncomputable def NV:List D→Option (Int×Int)
 |[x,y]=>b1 (c9 x) λa=>b1 (c9 y) λb=>some (a,b)
 |_=>none
noncomputable def asPair(d:D):Option (Int×Int):=b1 (dT d) NV
noncomputable def ofPair(p:Int×Int):D:=.tup [.int p.1,.int p.2]
noncomputable def b9(a b:Int×Int):Bool:=decide (a.1<b.1)||(decide (a.1=b.1)&&decide (a.2≤b.2))
noncomputable def fg(a b:Int):Bool:=decide (a≤b)
noncomputable def ins{α:Type}(le:α→α→Bool)(x:α):List α→List α
 |[]=>[x]
 |y::l=>match le x y with
  |true=>x::y::l
  |false=>y::ins le x l
noncomputable def cy{α:Type}(le:α→α→Bool):List α→List α
 |[]=>[]
 |x::l=>ins le x (cy le l)
noncomputable def fJ:List Int→List Int
 |[]=>[]
 |x::l=>match l.elem x with
  |true=>fJ l
  |false=>x::fJ l
noncomputable def Cy:List D→Option (Int×D)
 |[y,x]=>b1 (c9 y) λk=>some (k,x)
 |_=>none
noncomputable def j7(d:D):Option (Int×D):=b1 (dT d) Cy
theorem nH{d:D}(e:asPair d=some p):d=ofPair p:=BY e λl f e=>by
 subst f;cases l with
 |nil=>exact no e
 |cons x l=>cases l with
  |nil=>exact no e
  |cons y l=>cases l with
   |nil=>exact int_inv e λa i e=>int_inv e λb h e=>one e (i▸h▸rfl)
   |cons _ _=>exact no e
theorem oU{d:D}(e:j7 d=some p):d= .tup [.int p.1,p.2]:=BY e λl b e=>by
 subst b;cases l with
 |nil=>exact no e
 |cons x l=>cases l with
  |nil=>exact no e
  |cons y l=>cases l with
   |nil=>exact int_inv e λa f e=>one e (f▸rfl)
   |cons _ _=>exact no e
noncomputable def small(n:Nat):Bool:=Nat.blt n 64
noncomputable def OQ(a b:D):Option D:=match a with
 | .int i=>b1 (c9 b) λj=>some (.int (i+j))
 | .str x=>b1 (Hj b) λy=>gd (fits (x.length+y.length)) (some (.str (x++y)))
 | .lst l=>b1 (dL b) λm=>gd (fits (l.length+m.length)) (some (.lst (l++m)))
 |_=>none
noncomputable def xy(a b:D)(k:Int→Int→Option D):Option D:=b1 (c9 a) λi=>b1 (c9 b) λj=>k i j
noncomputable def Px(a b:Int):Option D:=gd (decide (a.natAbs<9223372036854775808)||decide (b.natAbs<9223372036854775808)) (some (.int (a*b)))
noncomputable def Np(a b:Int):Option D:=cond (decide (b=0)|| !decide (b.natAbs<9223372036854775808)) none (some (.int (Int.fdiv a b)))
noncomputable def Pw(a b:Int):Option D:=cond (decide (b=0)) none (some (.int (Int.fmod a b)))
noncomputable def Pz(a b:Int):Option D:=gd (decide (a=10)&&decide (b=18)) (some (.int 1000000000000000000))
noncomputable def binOp:MJ→D→D→Option D
 | .add,a,b=>OQ a b
 | .sub,a,b=>xy a b λi j=>some (.int (i-j))
 | .mul,a,b=>xy a b Px
 | .fdiv,a,b=>xy a b Np
 | .mod,a,b=>xy a b Pw
 | .pow,a,b=>xy a b Pz
noncomputable def Hr(x:D)(l:List D):Option Bool:=gd (iu 8 x&&b7 8 l) (some (l.any λy=>PyData.eqv y.py x.py))
noncomputable def DU(a b:D)(k:Int→Int→Bool):Option Bool:=b1 (c9 a) λi=>b1 (c9 b) λj=>some (k i j)
noncomputable def inD(a b:D):Option Bool:=match a with
 | .tup x=>b1 (dL b) λl=>Hr (.tup x) l
 | .int i=>b1 (dM b) λl=>some (l.lookup i).isSome
 |_=>none
noncomputable def NQ:D→Option Bool
 | .none=>some true
 | .tup _=>some false
 |_=>none
noncomputable def Sj(a b:D):Option Bool:=match b with
 | .none=>NQ a
 |_=>none
noncomputable def zW(x:Option Bool):Option Bool:=b1 x λb=>some (!b)
noncomputable def gx:HH→D→D→Option Bool
 | .eq,a,b=>Am a b
 | .ne,a,b=>zW (Am a b)
 | .lt,a,b=>DU a b λi j=>decide (i<j)
 | .le,a,b=>DU a b λi j=>decide (i≤j)
 | .gt,a,b=>DU a b λi j=>decide (j<i)
 | .ge,a,b=>DU a b λi j=>decide (j≤i)
 | .isin,a,b=>inD a b
 | .iW,a,b=>zW (inD a b)
 | .is,a,b=>Sj a b
noncomputable def idx(i:Int)(n:Nat):Option Nat:=cond (decide (0≤i)) (gd (decide (i<n)) (some i.toNat)) (gd (decide (0≤i+n)) (some (i+n).toNat))
noncomputable def tF(l:List D)(b:D):Option D:=b1 (c9 b) λi=>gd (fits i.natAbs) (b1 (idx i l.length) λk=>l[k]?)
noncomputable def hU(a b:D):Option D:=match a with
 | .lst l=>tF l b
 | .tup l=>tF l b
 | .dct l=>b1 (c9 b) λi=>l.lookup i
 | .str s=>b1 (c9 b) λi=>gd (fits i.natAbs) (b1 (idx i s.length) λk=>some (.str ⟨#[s.cps.getD k 0]⟩))
 |_=>none
noncomputable def DY(f:D→Option D):List D→Option D
 |[x]=>f x
 |_=>none
theorem gA{f:D→Option D}{P:Prop}(e:DY f ds=some z)(k:∀x,ds=[x]→f x=some z→P):P:=match ds,e with
 |[x],e=>k x rfl e
 |[],e=>no e
 |_::_::_,e=>no e
noncomputable def intD:D→Option D
 | .int i=>some (.int i)
 | .bool b=>some (.int (cond b 1 0))
 |_=>none
noncomputable def OS:List D→Option D:=DY intD
noncomputable def Po:D→Option D
 | .lst l=>gd (fits l.length) (some (.int l.length))
 | .tup l=>gd (fits l.length) (some (.int l.length))
 | .dct l=>gd (fits l.length) (some (.int l.length))
 | .str s=>gd (fits s.length) (some (.int s.length))
 |_=>none
noncomputable def OT:List D→Option D:=DY Po
noncomputable def yH(l:List D):Option D:=match l.mapM c9 with
 |some ns=>some (.lst ((cy fg ns).map D.int))
 |none=>b1 (l.mapM asPair) λps=>some (.lst ((cy b9 ps).map ofPair))
noncomputable def Fw:List D→Option D:=DY λx=>b1 (dL x) λl=>gd (small l.length) (yH l)
noncomputable def BB:List D→Option D:=DY λx=>b1 (dL x) λl=>gd (small l.length) (b1 (l.mapM c9) λns=>gd (Nat.blt (fJ ns).length 19) (some (.lst ((cy fg (fJ ns)).map D.int))))
noncomputable def NJ:D→Option D
 | .lst l=>gd (fits l.length) (some (.lst l))
 | .dct l=>gd (fits l.length) (some (.lst (l.map λp=>D.int p.1)))
 |_=>none
noncomputable def M0:List D→Option D:=DY NJ
noncomputable def MZ:List D→Option D:=DY λx=>b1 (dL x) λl=>b1 (l.mapM j7) λps=>gd (fits l.length) (some (.dct (ps.foldl (λm p=>fm m p.1 p.2) [])))
noncomputable def OW:List D→Option D:=DY λx=>b1 (dL x) λl=>b1 (l.mapM c9) λns=>gd (ns.all (λi=>decide (i.natAbs<1000000))) (some (.int ns.sum))
noncomputable def foldI(f:Int→Int→Int):List Int→Option D
 |[]=>none
 |n::ns=>some (.int (ns.foldl f n))
noncomputable def OV:List D→Option D:=DY λx=>b1 (dL x) λl=>b1 (l.mapM c9) (foldI min)
noncomputable def OU:List D→Option D:=DY λx=>b1 (dL x) λl=>b1 (l.mapM c9) (foldI max)
noncomputable def M1:List D→Option D
 |[x,y]=>xy x y λa b=>some (.int (max a b))
 |_=>none
noncomputable def cC:N8→List D→Option D
 | .int=>OS| .len=>OT| .sorted=>Fw| .jm=>BB| .list=>M0| .dict=>MZ| .sum=>OW| .min=>OV| .max=>OU| .max2=>M1
noncomputable def items:D→Option (List D)
 | .lst l=>some l
 | .tup l=>some l
 | .dct l=>some (l.map λp=>D.int p.1)
 |_=>none
noncomputable def g5(n:Int):List D→List D
 |[]=>[]
 |x::l=>.tup [.int n,x]::g5 (n+1) l
noncomputable def chars(s:Str):List D:=s.cps.toList.map λc=>.str ⟨#[c]⟩
noncomputable def wy:D→Option (List D)
 | .lst l=>some (g5 0 l)
 | .str s=>some (g5 0 (chars s))
 |_=>none
noncomputable def upto(a b:Int):List D:=(List.range (b-a).toNat).map λ(k:Nat)=>D.int (a+(k:Int))
noncomputable def e9(ρ:aB)(x:Nat)(v:V):aB:=match ρ with
 |[]=>[(x,v)]
 |p::r=>match decide (p.1=x)with
  |true=>(x,v)::r
  |false=>p::e9 r x v
noncomputable def cD(xs:List Nat)(x:D)(ρ:aB):Option aB:=match xs with
 |[y]=>some (e9 ρ y (.d x))
 |_=>match x with
  | .tup l=>match decide (l.length=xs.length)with
   |true=>some ((xs.zip l).foldl (λρ p=>e9 ρ p.1 (.d p.2)) ρ)
   |false=>none
  | .lst l=>match decide (l.length=xs.length)with
   |true=>some ((xs.zip l).foldl (λρ p=>e9 ρ p.1 (.d p.2)) ρ)
   |false=>none
  |_=>none
noncomputable def yu(c f:Nat):Bool:=(Nat.beq c 0&&(Nat.beq f 4||Nat.beq f 8))||(Nat.beq c 1&&Nat.beq f 25)
noncomputable def BA(f:Nat):D→Option V
 | .inst c fs=>gd (yu c f) (b1 (fs.lookup f) λx=>some (.d x))
 |_=>none
noncomputable def MY(f:Nat):Cell→Option V
 | .inst c fs=>gd (yu c f) (fs.lookup f)
 | .eE x=>BA f x
 |_=>none
noncomputable def xV(σ:ak)(v:V)(f:Nat):Option V:=match v with
 | .d x=>BA f x
 | .loc k=>b1 σ[k]? (MY f)
noncomputable def CD(m:Nat):D→Bool
 | .inst _ fs=>(fs.lookup m).isNone
 |_=>false
noncomputable def Hy(m:Nat):Cell→Bool
 | .inst _ fs=>(fs.lookup m).isNone
 | .eE x=>CD m x
 |_=>false
noncomputable def CF(σ:ak)(v:V)(m:Nat):Bool:=match v with
 | .d x=>CD m x
 | .loc k=>(σ[k]?.map (Hy m)).getD false
noncomputable def LV:D→Option Nat
 | .inst c _=>some c
 |_=>none
noncomputable def OY:Cell→Option Nat
 | .inst c _=>some c
 | .eE x=>LV x
 |_=>none
noncomputable def classOf(σ:ak):V→Option Nat
 | .d x=>LV x
 | .loc k=>b1 σ[k]? OY
noncomputable def Cell.whole:Cell→Bool
 | .eE _=>false
 |c=>(c.data []).isSome
noncomputable def jh(σ:ak):List Bool→List V→Option (List AR×ak×List Nat)
 |[],[]=>some ([],σ,[])
 |true::ms,.loc k::vs=>b3 (jh σ ms vs) λas σ' ks=>b1 σ'[k]? λc=>gd (c.whole&& !ks.elem k) (some (.c c::as,σ',k::ks))
 |false::ms,v::vs=>b2 (toD σ v) λx σ'=>b3 (jh σ' ms vs) λas σ2 ks=>some (.d x::as,σ2,ks)
 |_,_=>none
noncomputable def putBack(σ:ak):List Nat→List Cell→Option ak
 |[],[]=>some σ
 |k::ks,c::cs=>putBack (σ.set k c) ks cs
 |_,_=>none
noncomputable def vZ:D→Option Bool
 | .bool b=>some b
 |_=>none
theorem tW{d:D}(e:Hj d=some s):d= .str s:=by
 cases d with
 |str x=>exact one e rfl
 |_=>exact no e
theorem oV{d:D}(e:c9 d=some s):d= .int s:=by
 cases d with
 |int x=>exact one e rfl
 |_=>exact no e
theorem tV{d:D}(e:vZ d=some s):d= .bool s:=by
 cases d with
 |bool x=>exact one e rfl
 |_=>exact no e
theorem FW{d:D}(e:dL d=some l):d= .lst l:=by
 cases d with
 |lst x=>exact one e rfl
 |_=>exact no e
theorem FY{d:D}(e:dM d=some l):d= .dct l:=by
 cases d with
 |dct x=>exact one e rfl
 |_=>exact no e
noncomputable def qG{β:Type}(g:D→Option β):V→Option β
 | .d x=>g x
 | .loc _=>none
noncomputable def vK:V→Option Nat
 | .loc k=>some k
 | .d _=>none
noncomputable def Hq:Cell→Option (List D)
 | .lst l=>some l
 |_=>none
noncomputable def BS:Cell→Option (Nat×List (Nat×V))
 | .inst c fs=>some (c,fs)
 |_=>none
noncomputable def PX:AR→Option Cell
 | .c c=>some c
 | .d _=>none
section
variable{α β:Type}{g:α→Option β}{c:β→α}
noncomputable def w4(g:α→Option β)(o:Option (α×ak)):Option (β×ak):=b2 o λv σ=>b1 (g v) λi=>some (i,σ)
theorem mZ(a:∀v i,g v=some i→v=c i)(e:b1 o g=some i):o=some (c i):=az e λx h e=>a x i e▸h
theorem gS(b:∀v i,g v=some i→v=c i)(e:w4 g o=some (i,σ)):o=some (c i,σ):=au e λv σ1 h e=>az e λy a e=>two e (b v y a▸h)
end
theorem i5{c:β→D}(a:∀v i,g v=some i→v=c i):∀v i,qG g v=some i→v=V.d (c i)
 | .d x,i,e=>congrArg V.d (a x i e)
 | .loc _,_,e=>no e
theorem yN:∀v i,vK v=some i→v=V.loc i
 | .loc _,_,e=>one e rfl
 | .d _,_,e=>no e
theorem wq(v:Cell)(l:List D)(e:Hq v=some l):v= .lst l:=by
 cases v with
 |lst x=>exact one e rfl
 |_=>exact no e
theorem wo(v:Cell)(p:Nat×List (Nat×V))(e:BS v=some p):v= .inst p.1 p.2:=by
 cases v with
 |inst c fs=>exact one e rfl
 |_=>exact no e
theorem AY:∀(v:AR) (x:Cell),PX v=some x→v= .c x
 | .c _,_,e=>one e rfl
 | .d _,_,e=>no e
noncomputable def lV:Option (V×ak)→Option (Bool×ak):=w4 (qG vZ)
noncomputable def oI:Option (V×ak)→Option (Int×ak):=w4 (qG c9)
noncomputable def oX:Option (V×ak)→Option (Str×ak):=w4 (qG Hj)
noncomputable def oD:Option (V×ak)→Option (D×ak):=w4 (qG some)
noncomputable def oK:Option (V×ak)→Option (Nat×ak):=w4 vK
noncomputable def vL(o:Option D):Option (List D):=b1 o dL
noncomputable def vM(o:Option D):Option (List (Int×D)):=b1 o dM
noncomputable def cL(o:Option Cell):Option (List D):=b1 o Hq
noncomputable def cI(o:Option Cell):Option (Nat×List (Nat×V)):=b1 o BS
noncomputable def lK(o:Option V):Option Nat:=b1 o vK
noncomputable def lI(o:Option V):Option Int:=b1 o (qG c9)
noncomputable def aC:Option (AR×ak)→Option (Cell×ak):=w4 PX
@[elab_as_elim] theorem Aj{z b:Bool}{σ d:ak}{a:Bool→ak→Prop}(h:some (V.d (.bool z),σ)=some (.d (.bool b),d))(p:a z σ):a b d:=by cases h;exact p
theorem cX(e:lV o=some (b,σ)):o=some (.d (.bool b),σ):=gS (g:=qG vZ) (i5 λ_ _=>tV) e
theorem gM(e:oI o=some (i,σ)):o=some (.d (.int i),σ):=gS (g:=qG c9) (i5 λ_ _=>oV) e
theorem yr(e:oX o=some (x,σ)):o=some (.d (.str x),σ):=gS (g:=qG Hj) (i5 λ_ _=>tW) e
theorem oq(e:oD o=some (x,σ)):o=some (.d x,σ):=gS (g:=qG some) (i5 λ_ _=>Option.some.inj) e
theorem GA(e:oK o=some (k,σ)):o=some (.loc k,σ):=gS yN e
theorem xF(e:aC o=some (c,σ)):o=some (.c c,σ):=gS AY e
theorem oF(e:vL o=some l):o=some (.lst l):=mZ (λ_ _=>FW) e
theorem yP(e:vM o=some l):o=some (.dct l):=mZ (λ_ _=>FY) e
theorem n6(e:cL o=some l):o=some (.lst l):=mZ wq e
theorem ki(e:cI o=some (c,fs)):o=some (.inst c fs):=mZ (g:=BS) wo e
theorem mG(e:lK o=some k):o=some (.loc k):=mZ yN e
theorem yk(e:lI o=some i):o=some (.d (.int i)):=mZ (g:=qG c9) (i5 λ_ _=>oV) e
noncomputable def jt{σ:Type}(f:D→σ→Option σ):List D→σ→Option σ
 |[],s=>some s
 |x::l,s=>b1 (f x s) λs'=>jt f l s'
section
variable(C:Sem)
noncomputable def iB(g:Nat)(σ:ak)(vs:List V):Option (AR×ak):=b3 (jh σ (C.cg g) vs) λas σ' ks=>b2 (C.call g as) λr cs=>b1 (putBack σ' ks cs) λσ2=>some (r,σ2)
noncomputable def jb(c:Nat)(σ:ak)(vs:List V):Option (AR×ak):=b3 (jh σ (vs.map λzz=>false) vs) λas σ' zz=>b1 (C.new c as) λr=>some (r,σ')
noncomputable def FZ(o:Option (AR×ak)):Option (V×ak):=b2 o λr σ=>b1 r.data λx=>some (.d x,σ)
noncomputable def wm(ρ:aB)(l:List Nat):Option (List (Nat×D)):=l.mapM λx=>match ρ.lookup x with
 |some (.d d)=>some (x,d)
 |_=>none
noncomputable def LZ(σ:ak)(vs:List V):Option (List D):=vs.mapM (view σ)
noncomputable def kY(σ:ak):List V→Option (List D×ak)
 |[]=>some ([],σ)
 |v::vs=>b2 (toD σ v) λx σ'=>b2 (kY σ' vs) λl σ2=>some (x::l,σ2)
noncomputable def swapped(p:(Int×Int)×D):Bool:=match asPair p.2 with
 |some q=>decide (q.1=p.1.2)&&decide (q.2=p.1.1)
 |none=>false
noncomputable def keyed(k:Nat):List D→Option (List ((Int×Int)×D))
 |[]=>some []
 |x::l=>b1 (C.lam k [] [x]) λy=>b1 (asPair y) λp=>b1 (keyed k l) λr=>some ((p,x)::r)
noncomputable def M6(σ:ak)(vs:List V):D→Option (V×ak)
 | .fn g=>FZ (iB C g σ vs)
 | .ie k bL=>b2 (kY σ vs) λds σ2=>b1 (C.lam k bL ds) λx=>some (.d x,σ2)
 |_=>none
noncomputable def M7(v:V)(σ:ak)(vs:List V):Option (V×ak):=match v with
 | .d x=>M6 C σ vs x
 | .loc _=>none
noncomputable def pg(xs:List Nat)(ρ:aB)(t:aB→ak→Option (Bool×ak))(k:aB→ak→List D→Option (List D×ak))(x:D)(st:List D×ak):Option (List D×ak):=
 b1 (cD xs x ρ) λρ'=>b2 (t ρ' st.2) λq σ2=>cond q (k ρ' σ2 st.1) (some (st.1,σ2))
mutual
noncomputable def aH:T→aB→ak→Option (V×ak)
 | .var x,ρ,σ=>b1 (ρ.lookup x) λv=>some (v,σ)
 | .none,_,σ=>some (.d .none,σ)
 | .bool b,_,σ=>some (.d (.bool b),σ)
 | .int i,_,σ=>some (.d (.int i),σ)
 | .str s,_,σ=>some (.d (.str (Str.ofString s)),σ)
 | .glob g,_,σ=>some (.d (.fn g),σ)
 | .signs,_,σ=>some (.d (.lst C.signs),σ)
 | .bin o a b,ρ,σ=>b2 (aH a ρ σ) λva σ1=>b2 (aH b ρ σ1) λvb σ2=>b1 (view σ2 va) λx=>b1 (view σ2 vb) λy=>b1 (binOp o x y) λz=>some (.d z,σ2)
 | .not a,ρ,σ=>b2 (lV (aH a ρ σ)) λb σ1=>some (.d (.bool (!b)),σ1)
 | .and l,ρ,σ=>b2 (dJ l ρ σ) λb σ1=>some (.d (.bool b),σ1)
 | .or l,ρ,σ=>b2 (nT l ρ σ) λb σ1=>some (.d (.bool b),σ1)
 | .cmp o a b,ρ,σ=>b2 (aH a ρ σ) λva σ1=>b2 (aH b ρ σ1) λvb σ2=>b1 (view σ2 va) λx=>b1 (view σ2 vb) λy=>b1 (gx o x y) λz=>some (.d (.bool z),σ2)
 | .ud o1 o2 a b c,ρ,σ=>b2 (aH a ρ σ) λva σ1=>b2 (oD (aH b ρ σ1)) λy σ2=>b1 (view σ2 va) λx=>b1 (gx o1 x y) λq=>
   cond q (b2 (aH c ρ σ2) λvc σ3=>b1 (view σ3 vc) λz=>b1 (gx o2 y z) λr=>some (.d (.bool r),σ3)) (some (.d (.bool false),σ2))
 | .Nx c a b,ρ,σ=>b2 (lV (aH c ρ σ)) λq σ1=>cond q (aH a ρ σ1) (aH b ρ σ1)
 | .tup l,ρ,σ=>b2 (bH l ρ σ) λvs σ1=>b2 (kY σ1 vs) λds σ2=>gd (fits ds.length) (some (.d (.tup ds),σ2))
 | .lst l,ρ,σ=>b2 (bH l ρ σ) λvs σ1=>b2 (kY σ1 vs) λds σ2=>gd (fits ds.length) (some (.d (.lst ds),σ2))
 | .dct ks l,ρ,σ=>b2 (bH l ρ σ) λvs σ1=>b2 (kY σ1 vs) λds σ2=>gd (decide (ds.length=ks.length)&&Nat.ble ks.length 15) (some (.d (.dct ((ks.zip ds).foldl (λm p=>fm m p.1 p.2) [])),σ2))
 | .attr a f,ρ,σ=>b2 (aH a ρ σ) λv σ1=>b1 (xV σ1 v f) λx=>some (x,σ1)
 | .sub a i,ρ,σ=>b2 (aH a ρ σ) λva σ1=>b2 (aH i ρ σ1) λvi σ2=>b1 (view σ2 va) λx=>b1 (view σ2 vi) λy=>b1 (hU x y) λz=>some (.d z,σ2)
 | .ue a i,ρ,σ=>b2 (oX (aH a ρ σ)) λs σ1=>b2 (oI (aH i ρ σ1)) λk σ2=>gd (fits s.length&&(decide (0≤k)&&decide (k≤(s.length:Int)))) (some (.d (.str ⟨(s.cps.toList.take k.toNat).toArray⟩),σ2))
 | .mj a i,ρ,σ=>b2 (oX (aH a ρ σ)) λs σ1=>b2 (oI (aH i ρ σ1)) λk σ2=>gd (fits s.length&&(decide (0≤k)&&decide (k≤(s.length:Int)))) (some (.d (.str ⟨(s.cps.toList.drop k.toNat).toArray⟩),σ2))
 | .rev a,ρ,σ=>b2 (aH a ρ σ) λv σ1=>b1 (vL (view σ1 v)) λl=>gd (fits l.length) (some (.d (.lst l.reverse),σ1))
 | .call g l,ρ,σ=>b2 (bH l ρ σ) λvs σ1=>FZ (iB C g σ1 vs)
 | .new c l,ρ,σ=>b2 (bH l ρ σ) λvs σ1=>FZ (jb C c σ1 vs)
 | .kU x l,ρ,σ=>b1 (ρ.lookup x) λv=>b2 (bH l ρ σ) λvs σ1=>M7 C v σ1 vs
 | .di m a l,ρ,σ=>b2 (aH a ρ σ) λv σ1=>b1 (classOf σ1 v) λc=>b1 (C.di c m) λg=>gd (CF σ1 v m) (b2 (bH l ρ σ1) λvs σ2=>FZ (iB C g σ2 (v::vs)))
 | .blt b l,ρ,σ=>b2 (bH l ρ σ) λvs σ1=>b1 (LZ σ1 vs) λds=>b1 (cC b ds) λx=>some (.d x,σ1)
 | .rK k a,ρ,σ=>b2 (aH a ρ σ) λv σ1=>b1 (vL (view σ1 v)) λl=>gd (small l.length) (b1 (keyed C k l) λps=>gd (ps.all swapped) (some (.d (.lst ((cy b9 (ps.map (λx=>x.1))).map λp=>ofPair (p.2,p.1))),σ1)))
 | .get a k e,ρ,σ=>b2 (aH a ρ σ) λva σ1=>b1 (vM (view σ1 va)) λzz=>b2 (oI (aH k ρ σ1)) λi σ2=>b2 (oD (aH e ρ σ2)) λx σ3=>b1 (vM (view σ3 va)) λl=>some (.d ((l.lookup i).getD x),σ3)
 | .join a,ρ,σ=>b2 (aH a ρ σ) λv σ1=>b1 (vL (view σ1 v)) λl=>b1 (l.mapM Hj) λss=>gd (fits (ss.foldl (λn s=>n+s.length) 0)) (some (.d (.str (ss.foldl (λx y=>x++y) Str.empty)),σ1))
 | .comp ck e (.cons xs (.iq x) ifs r),ρ,σ=>gd ck.isEmpty (b1 (lK (ρ.lookup x)) λk=>b1 (cL σ[k]?) λl=>
   b2 (jt (pg xs [] (λρ σ=>dJ ifs ρ σ) λρ σ acc=>vB (λρ σ=>aH e ρ σ) r ρ ρ σ acc) (g5 0 l) ([],[])) λm zz=>some (.d (.lst m),σ))
 | .comp ck e g,ρ,σ=>b2 (vB (λρ σ=>aH e ρ σ) g ρ (ρ.filter λp=>ck.contains p.1) σ []) λl σ1=>some (.d (.lst l),σ1)
 | .lam k bL,ρ,σ=>b1 (wm ρ bL) λl=>some (.d (.ie k l),σ)
noncomputable def dJ:Ts→aB→ak→Option (Bool×ak)
 | .nil,_,σ=>some (true,σ)
 | .cons a r,ρ,σ=>b2 (lV (aH a ρ σ)) λq σ1=>cond q (dJ r ρ σ1) (some (false,σ1))
noncomputable def nT:Ts→aB→ak→Option (Bool×ak)
 | .nil,_,σ=>some (false,σ)
 | .cons a r,ρ,σ=>b2 (lV (aH a ρ σ)) λq σ1=>cond q (some (true,σ1)) (nT r ρ σ1)
noncomputable def bH:Ts→aB→ak→Option (List V×ak)
 | .nil,_,σ=>some ([],σ)
 | .cons a r,ρ,σ=>b2 (aH a ρ σ) λv σ1=>b2 (bH r ρ σ1) λvs σ2=>some (v::vs,σ2)
noncomputable def pB:It→aB→ak→Option (List D×ak)
 | .of a,ρ,σ=>b2 (oD (aH a ρ σ)) λx σ1=>b1 (items x) λl=>some (l,σ1)
 | .u7 b,ρ,σ=>b2 (oI (aH b ρ σ)) λn σ1=>gd (decide (n.natAbs<1000)) (some (upto 0 n,σ1))
 | .iH a b,ρ,σ=>b2 (oI (aH a ρ σ)) λm σ1=>b2 (oI (aH b ρ σ1)) λn σ2=>gd (decide (m.natAbs<1000)&&decide (n.natAbs<1000)) (some (upto m n,σ2))
 | .uf a,ρ,σ=>b2 (oD (aH a ρ σ)) λx σ1=>b1 (wy x) λl=>some (l,σ1)
 | .iq _,_,_=>none
noncomputable def vB(ee:aB→ak→Option (V×ak)):Gs→aB→aB→ak→List D→Option (List D×ak)
 | .nil,_,jo,σ,acc=>b2 (ee jo σ) λv σ1=>b2 (toD σ1 v) λx σ2=>gd (fits acc.length) (some (acc++[x],σ2))
 | .cons xs it ifs r,yS,jo,σ,acc=>b2 (pB it yS σ) λl σ1=>jt (pg xs jo (λρ σ=>dJ ifs ρ σ) λρ σ acc=>vB ee r ρ ρ σ acc) l (acc,σ1)
end
set_option genCtorIdx true in
inductive Fl where
 |next
 |cont
 |ret (v:V)
 deriving Inhabited
noncomputable abbrev St:=aB×ak
noncomputable def fK:T→aB→ak→Option (Cell×ak)
 | .lst l,ρ,σ=>b2 (bH C l ρ σ) λvs σ1=>b2 (kY σ1 vs) λds σ2=>gd (fits ds.length) (some (.lst ds,σ2))
 | .dct [] .nil,_,σ=>some (.dct [],σ)
 | .blt .list (.cons a .nil),ρ,σ=>b2 (aH C a ρ σ) λv σ1=>b1 (vL (view σ1 v)) λl=>gd (fits l.length) (some (.lst l,σ1))
 | .call g l,ρ,σ=>b2 (bH C l ρ σ) λvs σ1=>aC (iB C g σ1 vs)
 | .new c l,ρ,σ=>b2 (bH C l ρ σ) λvs σ1=>aC (jb C c σ1 vs)
 |_,_,_=>none
noncomputable def wC(e:T)(ρ:aB)(σ:ak):Option (D×ak):=b2 (aH C e ρ σ) λv σ1=>toD σ1 v
noncomputable def gi:List Bool→Ts→aB→ak→Option (List V×ak)
 |[],.nil,_,σ=>some ([],σ)
 |true::ms,.cons a r,ρ,σ=>b2 (fK C a ρ σ) λc σ1=>b2 (gi ms r ρ (σ1++[c])) λvs σ2=>some (.loc σ1.length::vs,σ2)
 |false::ms,.cons a r,ρ,σ=>b2 (wC C a ρ σ) λx σ1=>b2 (gi ms r ρ σ1) λvs σ2=>some (.d x::vs,σ2)
 |_,_,_,_=>none
noncomputable def MA(fs:List (Nat×V))(f:Nat)(v:V):List (Nat×V):=e9 fs f v
theorem Fl.nr{P:Prop}(h:Fl.next=Fl.ret v):P:=(congrArg (λx=>@Fl.casesOn (λa=>Prop) x True True λa=>P) h).mp trivial
theorem It.oe{P:Prop}(h:It.of a=It.iq x):P:=(congrArg (λx=>@It.casesOn (λb=>Prop) x (λb=>True) (λb=>True) (λb d=>True) (λb=>True) λb=>P) h).mp trivial
theorem It.re{P:Prop}(h:It.iH a b=It.iq x):P:=(congrArg (λx=>@It.casesOn (λd=>Prop) x (λd=>True) (λd=>True) (λd e=>True) (λd=>True) λd=>P) h).mp trivial
noncomputable def Fl.go(f:Fl)(st:St)(k:Option (Fl×St)):Option (Fl×St):=match f with
 | .ret v=>some (.ret v,st)
 |_=>k
noncomputable def qH(test:St→Option (Bool×ak))(body:St→Option (Fl×St)):Nat→St→Option (Fl×St)
 |0,_=>none
 |n+1,st=>b2 (test st) λq σ1=>cond q (b2 (body (st.1,σ1)) λf st'=>f.go st' (qH test body n st')) (some (.next,(st.1,σ1)))
noncomputable def m9(xs:List Nat)(body:St→Option (Fl×St)):List D→St→Option (Fl×St)
 |[],st=>some (.next,st)
 |x::l,st=>b1 (cD xs x st.1) λρ'=>b2 (body (ρ',st.2)) λf st'=>f.go st' (m9 xs body l st')
noncomputable def PC(c:Cell)(j:Int)(d:D):Option Cell:=match c with
 | .lst l=>b1 (idx j l.length) λn=>gd (fits j.natAbs) (some (.lst (l.set n d)))
 | .dct l=>gd (fits l.length) (some (.dct (fm l j d)))
 |_=>none
noncomputable def Fl.on(f:Fl)(st:St)(k:Option (Fl×St)):Option (Fl×St):=match f with
 | .next=>k
 |f=>some (f,st)
mutual
noncomputable def fZ:S→St→Option (Fl×St)
 | .asg x e,st=>b2 (wC C e st.1 st.2) λd σ1=>some (.next,(e9 st.1 x (.d d),σ1))
 | .v5 xs e,st=>b2 (wC C e st.1 st.2) λd σ1=>b1 (cD xs d st.1) λρ'=>some (.next,(ρ',σ1))
 | .lW xs ms es,st=>b2 (gi C ms es st.1 st.2) λvs σ1=>gd (decide (vs.length=xs.length)) (some (.next,((xs.zip vs).foldl (λρ p=>e9 ρ p.1 p.2) st.1,σ1)))
 | .qh x e,st=>b2 (fK C e st.1 st.2) λc σ1=>some (.next,(e9 st.1 x (.loc σ1.length),σ1++[c]))
 | .yC x f e,st=>b2 (wC C e st.1 st.2) λd σ1=>b1 (lK (st.1.lookup x)) λk=>b2 (cI σ1[k]?) λc fs=>gd (yu c f&&Nat.blt fs.length 900) (some (.next,(st.1,σ1.set k (.inst c (MA fs f (.d d))))))
 | .xh x f,st=>b1 (lK (st.1.lookup x)) λk=>b2 (cI st.2[k]?) λc fs=>gd (yu c f&&Nat.blt fs.length 900) (some (.next,(st.1,(st.2++[Cell.dct []]).set k (.inst c (MA fs f (.loc st.2.length))))))
 | .jv a i e,st=>b2 (wC C e st.1 st.2) λd σ1=>b2 (oK (aH C a st.1 σ1)) λk σ2=>b2 (oI (aH C i st.1 σ2)) λj σ3=>b1 σ3[k]? λc=>b1 (PC c j d) λc'=>some (.next,(st.1,σ3.set k c'))
 | .aug x e,st=>b1 (lI (st.1.lookup x)) λi=>b2 (oI (aH C e st.1 st.2)) λj σ1=>some (.next,(e9 st.1 x (.d (.int (i+j))),σ1))
 | .su x f e,st=>b1 (lK (st.1.lookup x)) λk=>b2 (cI st.2[k]?) λc fs=>b1 (lI (fs.lookup f)) λi=>b2 (oI (aH C e st.1 st.2)) λj σ1=>b2 (cI σ1[k]?) λc' fs'=>gd (yu c f&&(yu c' f&&Nat.blt fs'.length 900)) (some (.next,(st.1,σ1.set k (.inst c' (MA fs' f (.d (.int (i+j))))))))
 | .app x e,st=>b1 (lK (st.1.lookup x)) λk=>b1 (cL st.2[k]?) λzz=>b2 (wC C e st.1 st.2) λd σ1=>b1 (cL σ1[k]?) λl=>gd (fits l.length) (some (.next,(st.1,σ1.set k (.lst (l++[d])))))
 | .jQ xs it b,st=>b2 (pB C it st.1 st.2) λl σ1=>m9 xs (λst=>cu b st) l (st.1,σ1)
 | .lO c b,st=>qH (λst=>lV (aH C c st.1 st.2)) (λst=>cu b st) 200 st
 | .i6 c a b,st=>b2 (lV (aH C c st.1 st.2)) λq σ1=>cond q (cu a (st.1,σ1)) (cu b (st.1,σ1))
 | .ret e,st=>b2 (aH C e st.1 st.2) λv σ1=>some (.ret v,(st.1,σ1))
 | .GJ e,st=>b2 (fK C e st.1 st.2) λc σ1=>some (.ret (.loc σ1.length),(st.1,σ1++[c]))
 | .cont,st=>some (.cont,st)
 | .raise,_=>none
noncomputable def cu:Ss→St→Option (Fl×St)
 | .nil,st=>some (.next,st)
 | .cons a r,st=>b2 (fZ a st) λf st'=>f.on st' (cu r st')
end
noncomputable def C6(σ:ak):List (Nat×V)→Option (List (Nat×V)×ak)
 |[]=>some ([],σ)
 |p::fs=>b2 (toD σ p.2) λd σ1=>b2 (C6 σ1 fs) λgs σ2=>some ((p.1,.d d)::gs,σ2)
noncomputable def tn(σ:ak):List Nat→Option ak
 |[]=>some σ
 |i::is=>b1 σ[i]? λx=>match x with
  | .inst c fs=>b2 (C6 σ fs) λgs σ1=>b2 (cI σ1[i]?) λzz zz=>tn (σ1.set i (.inst c gs)) is
  |_=>tn σ is
noncomputable def enter:List Nat→List AR→Nat→Option (aB×ak)
 |[],[],_=>some ([],[])
 |x::xs,.d a::as,n=>b2 (enter xs as n) λρ σ=>some ((x,.d a)::ρ,σ)
 |x::xs,.c a::as,n=>b2 (enter xs as (n+1)) λρ σ=>some ((x,.loc n)::ρ,a::σ)
 |_,_,_=>none
noncomputable def outs(σ:ak)(n:Nat):Option (List Cell):=gd ((σ.take n).all Cell.whole) (some (σ.take n))
noncomputable def NY(b:Bool):Cell→Option AR
 | .eE x=>some (.d x)
 |c=>gd (b&&c.whole) (some (.c c))
noncomputable def result(σ:ak)(n:Nat):V→Option AR
 | .d x=>some (.d x)
 | .loc k=>b1 σ[k]? (NY (decide (n≤k)))
noncomputable def uL(n:Nat)(v:V)(σ:ak):Option (AR×List Cell):=b1 (tn σ (List.range n)) λσ1=>b1 (result σ1 n v) λr=>b1 (outs σ1 n) λcs=>some (r,cs)
noncomputable def Fl.res:Fl→Option V
 | .ret v=>some v
 | .next=>some (.d .none)
 | .cont=>none
noncomputable def qn(fd:bq)(as:List AR):Option (AR×List Cell):=b2 (enter fd.params as 0) λρ MH=>b2 (cu C fd.body (ρ,MH)) λf st=>b1 f.res λv=>uL MH.length v st.2
noncomputable def Gm:D→Bool
 | .none=>true
 |_=>false
noncomputable def AR.isNone:AR→Bool
 | .d x=>Gm x
 | .c _=>false
noncomputable def NU:List Cell→Option AR
 |[x]=>some (.c x)
 |_=>none
noncomputable def xf(c:Nat)(fd:bq)(as:List AR):Option AR:=b2 (qn C fd (.c (.inst c [])::as)) λr cs=>gd r.isNone (NU cs)
noncomputable def qo(ld:eA)(bL:List (Nat×D))(ds:List D):Option D:=gd (decide (ds.length=ld.params.length)) (b2 (aH C ld.body (ld.params.zip (ds.map V.d)++bL.map (λp=>(p.1,V.d p.2))) []) λv _=>view [] v)
end
structure Prog where
 fns:List bq
 zO:List eA
 Cw:List Nat
 meths:List (Nat×Nat×Nat)
 signs:List D
 refused:Nat
 odd:List Nat
noncomputable def Prog.sY(p:Prog)(c m:Nat):Option Nat:=match p.meths.find? (λt=>Nat.beq t.1 c&&Nat.beq t.2.1 m)with
 |some t=>some t.2.2
 |none=>none
noncomputable def Prog.CY(p:Prog)(g:Nat):List Bool:=match p.fns[g]? with
 |some fd=>fd.cg
 |none=>[]
noncomputable def Prog.sem(p:Prog):Nat→Sem
 |0=>⟨λzz zz=>none,λzz zz=>none,λzz zz zz=>none,p.CY,p.sY,p.signs⟩
 |n+1=>⟨λg as=>cond (Nat.ble p.refused g) none (b1 p.fns[g]? λfd=>qn (p.sem n) fd as),
  λc as=>b1 p.Cw[c]? λg=>b1 p.fns[g]? λfd=>xf (p.sem n) c fd as,
  λk bL ds=>b1 p.zO[k]? λld=>gd (decide (bL.map (λx=>x.1)=ld.bL)) (qo (p.sem n) ld bL ds),
  p.CY,p.sY,p.signs⟩
noncomputable def Ss.take:Nat→Ss→Ss
 |0,_=>.nil
 |_+1,.nil=>.nil
 |n+1,.cons s r=>.cons s (r.take n)
noncomputable def Ss.drop:Nat→Ss→Ss
 |0,b=>b
 |_+1,.nil=>.nil
 |n+1,.cons _ r=>r.drop n
noncomputable def f0:bq:={params:=[3],cg:=[false],body:=(.cons (.qh 0 (.lst .nil)) (.cons (.jQ [1,2] (.of (.blt .sorted (.cons (.comp [] (.tup (.cons (.blt .int (.cons (.var 1) .nil)) (.cons (.blt .int (.cons (.var 2) .nil)) .nil))) (.cons [1,2] (.of (.var 3)) .nil .nil)) .nil))) (.cons (.i6 (.cmp .le (.var 2) (.var 1)) (.cons .cont .nil) .nil) (.cons (.i6 (.and (.cons (.cmp .ne (.var 0) (.lst .nil)) (.cons (.cmp .le (.var 1) (.sub (.sub (.var 0) (.int (-1))) (.int 1))) .nil))) (.cons (.jv (.var 0) (.int (-1)) (.tup (.cons (.sub (.sub (.var 0) (.int (-1))) (.int 0)) (.cons (.blt .max2 (.cons (.sub (.sub (.var 0) (.int (-1))) (.int 1)) (.cons (.var 2) .nil))) .nil)))) .nil) (.cons (.app 0 (.tup (.cons (.var 1) (.cons (.var 2) .nil)))) .nil)) .nil))) (.cons (.ret (.var 0)) .nil)))}
noncomputable def f1:bq:={params:=[4],cg:=[false],body:=(.cons (.qh 0 (.lst .nil)) (.cons (.jQ [1,2] (.of (.var 4)) (.cons (.app 0 (.var 1)) (.cons (.app 0 (.var 2)) .nil))) (.cons (.ret (.var 0)) .nil)))}
noncomputable def f2:bq:={params:=[6,7],cg:=[false,false],body:=(.cons (.lW [1,5] [false,false] (.cons (.call 1 (.cons (.var 6) .nil)) (.cons (.call 1 (.cons (.var 7) .nil)) .nil))) (.cons (.lW [0,8,9] [true,false,false] (.cons (.lst .nil) (.cons (.int 0) (.cons (.int 0) .nil)))) (.cons (.lO (.or (.cons (.cmp .lt (.var 8) (.blt .len (.cons (.var 1) .nil))) (.cons (.cmp .lt (.var 9) (.blt .len (.cons (.var 5) .nil))) .nil))) (.cons (.i6 (.or (.cons (.cmp .eq (.var 9) (.blt .len (.cons (.var 5) .nil))) (.cons (.and (.cons (.cmp .lt (.var 8) (.blt .len (.cons (.var 1) .nil))) (.cons (.cmp .le (.sub (.var 1) (.var 8)) (.sub (.var 5) (.var 9))) .nil))) .nil))) (.cons (.asg 10 (.sub (.var 1) (.var 8))) (.cons (.aug 8 (.int 1)) .nil)) (.cons (.asg 10 (.sub (.var 5) (.var 9))) (.cons (.aug 9 (.int 1)) .nil))) (.cons (.i6 (.or (.cons (.cmp .eq (.var 0) (.lst .nil)) (.cons (.cmp .ne (.sub (.var 0) (.int (-1))) (.var 10)) .nil))) (.cons (.app 0 (.var 10)) .nil) .nil) .nil))) (.cons (.ret (.var 0)) .nil))))}
noncomputable def f3:bq:={params:=[11,4],cg:=[true,false],body:=(.cons (.yC 11 4 (.var 4)) (.cons (.yC 11 8 (.int 0)) .nil))}
noncomputable def f4:bq:={params:=[11,10],cg:=[true,false],body:=(.cons (.lO (.and (.cons (.cmp .lt (.attr (.var 11) 8) (.blt .len (.cons (.attr (.var 11) 4) .nil))) (.cons (.cmp .le (.sub (.sub (.attr (.var 11) 4) (.attr (.var 11) 8)) (.int 1)) (.var 10)) .nil))) (.cons (.su 11 8 (.int 1)) .nil)) (.cons (.ret (.and (.cons (.cmp .lt (.attr (.var 11) 8) (.blt .len (.cons (.attr (.var 11) 4) .nil))) (.cons (.cmp .le (.sub (.sub (.attr (.var 11) 4) (.attr (.var 11) 8)) (.int 0)) (.var 10)) .nil)))) .nil))}
noncomputable def f5:bq:={params:=[6,7,15],cg:=[false,false,false],body:=(.cons (.lW [0,1,5] [true,true,true] (.cons (.lst .nil) (.cons (.new 0 (.cons (.var 6) .nil)) (.cons (.new 0 (.cons (.var 7) .nil)) .nil)))) (.cons (.asg 12 (.call 2 (.cons (.var 6) (.cons (.var 7) .nil)))) (.cons (.jQ [8] (.u7 (.bin .sub (.blt .len (.cons (.var 12) .nil)) (.int 1))) (.cons (.lW [13,14] [false,false] (.cons (.sub (.var 12) (.var 8)) (.cons (.sub (.var 12) (.bin .add (.var 8) (.int 1))) .nil))) (.cons (.i6 (.not (.kU 15 (.cons (.di 16 (.var 1) (.cons (.var 13) .nil)) (.cons (.di 16 (.var 5) (.cons (.var 13) .nil)) .nil)))) (.cons .cont .nil) .nil) (.cons (.i6 (.and (.cons (.cmp .ne (.var 0) (.lst .nil)) (.cons (.cmp .eq (.sub (.sub (.var 0) (.int (-1))) (.int 1)) (.var 13)) .nil))) (.cons (.jv (.var 0) (.int (-1)) (.tup (.cons (.sub (.sub (.var 0) (.int (-1))) (.int 0)) (.cons (.var 14) .nil)))) .nil) (.cons (.app 0 (.tup (.cons (.var 13) (.cons (.var 14) .nil)))) .nil)) .nil)))) (.cons (.ret (.var 0)) .nil))))}
noncomputable def f6:bq:={params:=[6,7],cg:=[false,false],body:=(.cons (.ret (.call 5 (.cons (.var 6) (.cons (.var 7) (.cons (.lam 0 []) .nil))))) .nil)}
noncomputable def f7:bq:={params:=[6,7],cg:=[false,false],body:=(.cons (.ret (.call 5 (.cons (.var 6) (.cons (.var 7) (.cons (.lam 1 []) .nil))))) .nil)}
noncomputable def f8:bq:={params:=[6,7],cg:=[false,false],body:=(.cons (.ret (.call 5 (.cons (.var 6) (.cons (.var 7) (.cons (.lam 2 []) .nil))))) .nil)}
noncomputable def f9:bq:={params:=[6,7],cg:=[false,false],body:=(.cons (.ret (.call 5 (.cons (.var 6) (.cons (.var 7) (.cons (.lam 3 []) .nil))))) .nil)}
noncomputable def P9:bq:={params:=[4,19,20],cg:=[false,false,false],body:=(.cons (.ret (.call 7 (.cons (.var 4) (.cons (.call 0 (.cons (.lst (.cons (.tup (.cons (.var 19) (.cons (.var 20) .nil))) .nil)) .nil)) .nil)))) .nil)}
noncomputable def O1:bq:={params:=[4],cg:=[false],body:=(.cons (.asg 21 (.int 0)) (.cons (.jQ [1,2] (.of (.var 4)) (.cons (.aug 21 (.bin .sub (.var 2) (.var 1))) .nil)) (.cons (.ret (.var 21)) .nil)))}
noncomputable def Nk:bq:={params:=[4,23],cg:=[false,false],body:=(.cons (.lW [19,20] [false,false] (.cons (.int 0) (.cons (.blt .len (.cons (.var 4) .nil)) .nil))) (.cons (.lO (.cmp .lt (.var 19) (.var 20)) (.cons (.asg 22 (.bin .fdiv (.bin .add (.var 19) (.var 20)) (.int 2))) (.cons (.i6 (.cmp .le (.sub (.sub (.var 4) (.var 22)) (.int 1)) (.var 23)) (.cons (.asg 19 (.bin .add (.var 22) (.int 1))) .nil) (.cons (.asg 20 (.var 22)) .nil)) .nil))) (.cons (.ret (.and (.cons (.cmp .lt (.var 19) (.blt .len (.cons (.var 4) .nil))) (.cons (.cmp .le (.sub (.sub (.var 4) (.var 19)) (.int 0)) (.var 23)) .nil)))) .nil)))}
noncomputable def Qa:bq:={params:=[4,24],cg:=[false,false],body:=(.cons (.ret (.comp [24] (.tup (.cons (.bin .add (.var 1) (.var 24)) (.cons (.bin .add (.var 2) (.var 24)) .nil))) (.cons [1,2] (.of (.var 4)) .nil .nil))) .nil)}
noncomputable def Oa:bq:={params:=[11,25],cg:=[true,false],body:=(.cons (.xh 11 25) (.cons (.jQ [26] (.of (.blt .sorted (.cons (.comp [] (.blt .int (.cons (.var 26) .nil)) (.cons [26] (.of (.var 25)) .nil .nil)) .nil))) (.cons (.i6 (.cmp .ne (.sub (.var 25) (.var 26)) (.lst .nil)) (.cons (.jv (.attr (.var 11) 25) (.var 26) (.blt .list (.cons (.sub (.var 25) (.var 26)) .nil))) .nil) .nil) .nil)) .nil))}
noncomputable def Qc:bq:={params:=[11,26],cg:=[false,false],body:=(.cons (.ret (.blt .list (.cons (.get (.attr (.var 11) 25) (.var 26) (.lst .nil)) .nil))) .nil)}
noncomputable def Qd:bq:={params:=[11],cg:=[false],body:=(.cons (.ret (.blt .list (.cons (.attr (.var 11) 25) .nil))) .nil)}
noncomputable def Qe:bq:={params:=[11],cg:=[false],body:=(.cons (.ret (.cmp .eq (.attr (.var 11) 25) (.dct [] .nil))) .nil)}
noncomputable def Qf:bq:={params:=[11,23,26],cg:=[false,false,false],body:=(.cons (.ret (.call 12 (.cons (.get (.attr (.var 11) 25) (.var 26) (.lst .nil)) (.cons (.var 23) .nil)))) .nil)}
noncomputable def Qg:bq:={params:=[11],cg:=[false],body:=(.cons (.ret (.blt .sum (.cons (.comp [11] (.call 11 (.cons (.sub (.attr (.var 11) 25) (.var 26)) .nil)) (.cons [26] (.of (.attr (.var 11) 25)) .nil .nil)) .nil))) .nil)}
noncomputable def Qh:bq:={params:=[11],cg:=[false],body:=(.cons (.i6 (.di 27 (.var 11) .nil) (.cons (.ret .none) .nil) .nil) (.cons (.asg 28 (.blt .min (.cons (.comp [11] (.sub (.sub (.sub (.attr (.var 11) 25) (.var 26)) (.int 0)) (.int 0)) (.cons [26] (.of (.attr (.var 11) 25)) .nil .nil)) .nil))) (.cons (.asg 29 (.blt .max (.cons (.comp [11] (.sub (.sub (.sub (.attr (.var 11) 25) (.var 26)) (.int (-1))) (.int 1)) (.cons [26] (.of (.attr (.var 11) 25)) .nil .nil)) .nil))) (.cons (.asg 30 (.di 31 (.var 11) .nil)) (.cons (.ret (.tup (.cons (.var 28) (.cons (.sub (.var 30) (.int 0)) (.cons (.bin .sub (.var 29) (.var 28)) (.cons (.bin .sub (.bin .add (.sub (.var 30) (.int (-1))) (.int 1)) (.sub (.var 30) (.int 0))) .nil)))))) .nil)))))}
noncomputable def Qi:bq:={params:=[11,7],cg:=[false,false],body:=(.cons (.ret (.cmp .eq (.attr (.var 11) 25) (.attr (.var 7) 25))) .nil)}
noncomputable def Qj:bq:={params:=[28,34,32,33],cg:=[false,false,false,false],body:=(.cons (.i6 (.or (.cons (.cmp .lt (.var 32) (.int 0)) (.cons (.cmp .lt (.var 33) (.int 0)) .nil))) (.cons .raise .nil) .nil) (.cons (.i6 (.cmp .eq (.var 32) (.int 0)) (.cons (.ret (.new 1 (.cons (.dct [] .nil) .nil))) .nil) .nil) (.cons (.ret (.new 1 (.cons (.blt .dict (.cons (.comp [28,32] (.tup (.cons (.var 26) (.cons (.lst (.cons (.tup (.cons (.var 28) (.cons (.bin .add (.var 28) (.var 32)) .nil))) .nil)) .nil))) (.cons [26] (.iH (.var 34) (.bin .add (.var 34) (.var 33))) .nil .nil)) .nil)) .nil))) .nil)))}
noncomputable def Qk:bq:={params:=[34,33,35],cg:=[false,false,false],body:=(.cons (.ret (.new 1 (.cons (.blt .dict (.cons (.comp [35] (.tup (.cons (.var 26) (.cons (.call 0 (.cons (.kU 35 (.cons (.var 26) .nil)) .nil)) .nil))) (.cons [26] (.iH (.var 34) (.bin .add (.var 34) (.var 33))) .nil .nil)) .nil)) .nil))) .nil)}
noncomputable def O2:bq:={params:=[6,7,36],cg:=[false,false,false],body:=(.cons (.qh 25 (.dct [] .nil)) (.cons (.jQ [26] (.of (.bin .add (.blt .list (.cons (.attr (.var 6) 25) .nil)) (.blt .list (.cons (.attr (.var 7) 25) .nil)))) (.cons (.i6 (.cmp .iW (.var 26) (.var 25)) (.cons (.jv (.var 25) (.var 26) (.kU 36 (.cons (.di 4 (.var 6) (.cons (.var 26) .nil)) (.cons (.di 4 (.var 7) (.cons (.var 26) .nil)) .nil)))) .nil) .nil) .nil)) (.cons (.ret (.new 1 (.cons (.var 25) .nil))) .nil)))}
noncomputable def Ql:bq:={params:=[6,7],cg:=[false,false],body:=(.cons (.ret (.call 24 (.cons (.var 6) (.cons (.var 7) (.cons (.glob 6) .nil))))) .nil)}
noncomputable def Qm:bq:={params:=[6,7],cg:=[false,false],body:=(.cons (.ret (.call 24 (.cons (.var 6) (.cons (.var 7) (.cons (.glob 7) .nil))))) .nil)}
noncomputable def Qn:bq:={params:=[6,7],cg:=[false,false],body:=(.cons (.ret (.call 24 (.cons (.var 6) (.cons (.var 7) (.cons (.glob 8) .nil))))) .nil)}
noncomputable def Qo:bq:={params:=[6,7],cg:=[false,false],body:=(.cons (.ret (.call 24 (.cons (.var 6) (.cons (.var 7) (.cons (.glob 9) .nil))))) .nil)}
noncomputable def Qp:bq:={params:=[37,29,38],cg:=[false,false,false],body:=(.cons (.ret (.new 1 (.cons (.blt .dict (.cons (.comp [38,29,37] (.tup (.cons (.bin .add (.var 26) (.var 38)) (.cons (.call 13 (.cons (.sub (.attr (.var 37) 25) (.var 26)) (.cons (.var 29) .nil))) .nil))) (.cons [26] (.of (.attr (.var 37) 25)) .nil .nil)) .nil)) .nil))) .nil)}
noncomputable def O3:bq:={params:=[37,28,34,32,33],cg:=[false,false,false,false,false],body:=(.cons (.i6 (.or (.cons (.cmp .lt (.var 32) (.int 0)) (.cons (.cmp .lt (.var 33) (.int 0)) .nil))) (.cons .raise .nil) .nil) (.cons (.qh 25 (.dct [] .nil)) (.cons (.jQ [26] (.of (.di 31 (.var 37) .nil)) (.cons (.i6 (.ud .le .lt (.var 34) (.var 26) (.bin .add (.var 34) (.var 33))) (.cons (.jv (.var 25) (.var 26) (.call 10 (.cons (.sub (.attr (.var 37) 25) (.var 26)) (.cons (.var 28) (.cons (.bin .add (.var 28) (.var 32)) .nil))))) .nil) .nil) .nil)) (.cons (.ret (.new 1 (.cons (.var 25) .nil))) .nil))))}
noncomputable def Qq:bq:={params:=[6,7],cg:=[false,false],body:=(.cons (.ret (.di 27 (.call 27 (.cons (.var 6) (.cons (.var 7) .nil))) .nil)) .nil)}
noncomputable def Qs:bq:={params:=[6,7],cg:=[false,false],body:=(.cons (.ret (.not (.di 27 (.call 26 (.cons (.var 6) (.cons (.var 7) .nil))) .nil))) .nil)}
noncomputable def O4:bq:={params:=[37],cg:=[false],body:=(.cons (.asg 39 (.var 37)) (.cons (.jQ [29,38] (.of (.tup (.cons (.tup (.cons (.int 1) (.cons (.int 0) .nil))) (.cons (.tup (.cons (.int (-1)) (.cons (.int 0) .nil))) (.cons (.tup (.cons (.int 0) (.cons (.int 1) .nil))) (.cons (.tup (.cons (.int 0) (.cons (.int (-1)) .nil))) .nil)))))) (.cons (.asg 39 (.call 26 (.cons (.var 39) (.cons (.call 29 (.cons (.var 37) (.cons (.var 29) (.cons (.var 38) .nil)))) .nil)))) .nil)) (.cons (.ret (.call 27 (.cons (.var 37) (.cons (.var 39) .nil)))) .nil)))}
noncomputable def Nl:bq:={params:=[42,41],cg:=[false,false],body:=(.cons (.asg 40 (.int 0)) (.cons (.i6 (.cmp .lt (.var 41) (.blt .len (.cons (.var 42) .nil))) (.cons (.asg 40 (.sub (.var 42) (.var 41))) .nil) .nil) (.cons (.asg 43 (.blt .max2 (.cons (.blt .int (.cons (.var 40) .nil)) (.cons (.blt .int (.cons (.bin .sub (.int (-1)) (.var 40)) .nil)) .nil)))) (.cons (.asg 44 (.bin .mod (.blt .int (.cons (.bin .mul (.bin .add (.bin .add (.bin .add (.bin .mod (.blt .int (.cons (.var 43) .nil)) (.int 2147483629)) (.bin .mul (.bin .mul (.int 7919) (.var 41)) (.var 41))) (.bin .mul (.int 31) (.var 41))) (.int 17)) (.int 48271)) .nil)) (.int 2147483647))) (.cons (.GJ (.lst (.cons (.bin .mul (.var 43) (.blt .int (.cons (.cmp .ge (.var 43) (.bin .pow (.int 10) (.int 18))) .nil))) (.cons (.var 44) .nil)))) .nil)))))}
noncomputable def Qt:bq:={params:=[45,34],cg:=[true,false],body:=(.cons (.i6 (.cmp .gt (.sub (.var 45) (.int 0)) (.int 0)) (.cons (.asg 46 (.bin .mod (.blt .int (.cons (.sub (.var 45) (.int 0)) .nil)) (.var 34))) (.cons (.jv (.var 45) (.int 0) (.bin .fdiv (.sub (.var 45) (.int 0)) (.var 34))) (.cons (.ret (.var 46)) .nil))) .nil) (.cons (.jv (.var 45) (.int 1) (.bin .mod (.blt .int (.cons (.bin .add (.bin .mul (.sub (.var 45) (.int 1)) (.int 39373)) (.int 7)) .nil)) (.int 2147483647))) (.cons (.ret (.bin .mod (.blt .int (.cons (.bin .fdiv (.bin .mod (.blt .int (.cons (.bin .mul (.sub (.var 45) (.int 1)) (.sub (.var 45) (.int 1))) .nil)) (.int 2147483629)) (.int 32)) .nil)) (.var 34))) .nil)))}
noncomputable def Qu:bq:={params:=[45,47],cg:=[true,false],body:=(.cons (.ret (.sub (.var 47) (.call 35 (.cons (.var 45) (.cons (.blt .len (.cons (.var 47) .nil)) .nil))))) .nil)}
noncomputable def Qv:bq:={params:=[45],cg:=[true],body:=(.cons (.lW [28,34] [false,false] (.cons (.bin .sub (.call 35 (.cons (.var 45) (.cons (.int 6) .nil))) (.int 3)) (.cons (.bin .sub (.call 35 (.cons (.var 45) (.cons (.int 5) .nil))) (.int 2)) .nil))) (.cons (.ret (.lst (.cons (.var 28) (.cons (.var 34) (.cons (.comp [45] (.call 36 (.cons (.var 45) (.cons .signs .nil))) (.cons [48] (.u7 (.call 35 (.cons (.var 45) (.cons (.int 5) .nil)))) .nil .nil)) .nil))))) .nil))}
noncomputable def O5:bq:={params:=[49],cg:=[false],body:=(.cons (.v5 [28,34,25] (.var 49)) (.cons (.qh 0 (.lst .nil)) (.cons (.jQ [38,50] (.uf (.var 25)) (.cons (.jQ [29,51] (.uf (.var 50)) (.cons (.i6 (.cmp .eq (.var 51) (.str "#")) (.cons (.app 0 (.tup (.cons (.bin .add (.var 28) (.var 29)) (.cons (.bin .add (.var 34) (.var 38)) .nil)))) .nil) .nil) .nil)) .nil)) (.cons (.ret (.var 0)) .nil))))}
noncomputable def Qw:bq:={params:=[49],cg:=[false],body:=(.cons (.v5 [28,34,25] (.var 49)) (.cons (.asg 52 (.call 38 (.cons (.var 49) .nil))) (.cons (.ret (.call 23 (.cons (.var 34) (.cons (.blt .len (.cons (.var 25) .nil)) (.cons (.lam 4 [52]) .nil))))) .nil)))}
noncomputable def Qx:bq:={params:=[37,52],cg:=[false,false],body:=(.cons (.asg 55 (.comp [37] (.tup (.cons (.var 53) (.cons (.var 54) .nil))) (.cons [54] (.of (.di 31 (.var 37) .nil)) .nil (.cons [1,2] (.of (.di 4 (.var 37) (.cons (.var 54) .nil))) .nil (.cons [53] (.iH (.var 1) (.var 2)) .nil .nil))))) (.cons (.i6 (.cmp .ne (.var 55) (.rK 5 (.var 52))) (.cons (.ret (.bool false)) .nil) .nil) (.cons (.asg 38 (.blt .jm (.cons (.comp [] (.var 54) (.cons [53,54] (.of (.var 52)) .nil .nil)) .nil))) (.cons (.i6 (.or (.cons (.cmp .ne (.di 56 (.var 37) .nil) (.blt .len (.cons (.var 52) .nil))) (.cons (.cmp .ne (.di 31 (.var 37) .nil) (.var 38)) (.cons (.cmp .ne (.di 27 (.var 37) .nil) (.cmp .eq (.var 52) (.lst .nil))) .nil)))) (.cons (.ret (.bool false)) .nil) .nil) (.cons (.i6 (.cmp .eq (.var 52) (.lst .nil)) (.cons (.ret (.cmp .is (.di 57 (.var 37) .nil) .none)) .nil) .nil) (.cons (.asg 58 (.comp [] (.var 53) (.cons [53,54] (.of (.var 52)) .nil .nil))) (.cons (.ret (.cmp .eq (.di 57 (.var 37) .nil) (.tup (.cons (.blt .min (.cons (.var 58) .nil)) (.cons (.sub (.var 38) (.int 0)) (.cons (.bin .sub (.bin .add (.blt .max (.cons (.var 58) .nil)) (.int 1)) (.blt .min (.cons (.var 58) .nil))) (.cons (.bin .sub (.bin .add (.sub (.var 38) (.int (-1))) (.int 1)) (.sub (.var 38) (.int 0))) .nil))))))) .nil)))))))}
noncomputable def O6:bq:={params:=[37,52,49],cg:=[false,false,false],body:=(.cons (.v5 [28,34,25] (.var 49)) (.cons (.jQ [38] (.iH (.bin .sub (.var 34) (.int 1)) (.bin .add (.bin .add (.var 34) (.blt .len (.cons (.var 25) .nil))) (.int 1))) (.cons (.jQ [58] (.iH (.bin .sub (.var 28) (.int 1)) (.bin .add (.var 28) (.int 6))) (.cons (.i6 (.cmp .ne (.di 16 (.var 37) (.cons (.var 58) (.cons (.var 38) .nil))) (.cmp .isin (.tup (.cons (.var 58) (.cons (.var 38) .nil))) (.var 52))) (.cons (.ret (.bool false)) .nil) .nil) .nil)) .nil)) (.cons (.ret (.bool true)) .nil)))}
noncomputable def Qy:bq:={params:=[45,49],cg:=[true,false],body:=(.cons (.asg 59 (.call 35 (.cons (.var 45) (.cons (.int 3) .nil)))) (.cons (.i6 (.or (.cons (.cmp .eq (.var 59) (.int 0)) (.cons (.and (.cons (.cmp .eq (.var 59) (.int 1)) (.cons (.cmp .eq (.join (.sub (.var 49) (.int 2))) (.str "")) .nil))) .nil))) (.cons (.ret (.lst (.cons (.sub (.var 49) (.int 0)) (.cons (.sub (.var 49) (.int 1)) (.cons (.blt .list (.cons (.sub (.var 49) (.int 2)) .nil)) .nil))))) .nil) .nil) (.cons (.i6 (.cmp .eq (.var 59) (.int 2)) (.cons (.ret (.call 37 (.cons (.var 45) .nil))) .nil) .nil) (.cons (.qh 25 (.blt .list (.cons (.sub (.var 49) (.int 2)) .nil))) (.cons (.asg 12 (.comp [] (.tup (.cons (.var 38) (.cons (.var 29) .nil))) (.cons [38,50] (.iq 25) .nil (.cons [29] (.u7 (.blt .len (.cons (.var 50) .nil))) .nil .nil)))) (.cons (.v5 [38,29] (.call 36 (.cons (.var 45) (.cons (.var 12) .nil)))) (.cons (.asg 51 (.Nx (.cmp .eq (.sub (.sub (.var 25) (.var 38)) (.var 29)) (.str ".")) (.str "#") (.str "."))) (.cons (.jv (.var 25) (.var 38) (.bin .add (.bin .add (.ue (.sub (.var 25) (.var 38)) (.var 29)) (.var 51)) (.mj (.sub (.var 25) (.var 38)) (.bin .add (.var 29) (.int 1))))) (.cons (.ret (.lst (.cons (.sub (.var 49) (.int 0)) (.cons (.sub (.var 49) (.int 1)) (.cons (.var 25) .nil))))) .nil)))))))))}
noncomputable def Nm:bq:={params:=[1,5,61,62],cg:=[false,false,false,false],body:=(.cons (.asg 60 (.comp [62] (.var 10) (.cons [10] (.of (.var 61)) (.cons (.cmp .isin (.var 10) (.var 62)) .nil) .nil))) (.cons (.asg 63 (.comp [62] (.var 10) (.cons [10] (.of (.var 61)) (.cons (.cmp .iW (.var 10) (.var 62)) .nil) .nil))) (.cons (.asg 64 (.comp [61] (.var 10) (.cons [10] (.of (.var 62)) (.cons (.cmp .iW (.var 10) (.var 61)) .nil) .nil))) (.cons (.i6 (.or (.cons (.cmp .ne (.di 65 (.var 1) (.cons (.var 5) .nil)) (.cmp .eq (.blt .sorted (.cons (.var 61) .nil)) (.blt .sorted (.cons (.var 62) .nil)))) (.cons (.cmp .ne (.call 32 (.cons (.var 1) (.cons (.var 5) .nil))) (.cmp .ne (.var 60) (.lst .nil))) .nil))) (.cons (.ret (.bool false)) .nil) .nil) (.cons (.i6 (.or (.cons (.cmp .ne (.call 31 (.cons (.var 1) (.cons (.var 5) .nil))) (.cmp .eq (.var 63) (.lst .nil))) (.cons (.cmp .ne (.call 31 (.cons (.var 5) (.cons (.var 1) .nil))) (.cmp .eq (.var 64) (.lst .nil))) .nil))) (.cons (.ret (.bool false)) .nil) .nil) (.cons (.i6 (.or (.cons (.not (.call 40 (.cons (.call 25 (.cons (.var 1) (.cons (.var 5) .nil))) (.cons (.bin .add (.var 61) (.var 64)) .nil)))) (.cons (.not (.call 40 (.cons (.call 26 (.cons (.var 1) (.cons (.var 5) .nil))) (.cons (.var 60) .nil)))) .nil))) (.cons (.ret (.bool false)) .nil) .nil) (.cons (.ret (.and (.cons (.call 40 (.cons (.call 27 (.cons (.var 1) (.cons (.var 5) .nil))) (.cons (.var 63) .nil))) (.cons (.call 40 (.cons (.call 28 (.cons (.var 1) (.cons (.var 5) .nil))) (.cons (.bin .add (.var 63) (.var 64)) .nil))) .nil)))) .nil)))))))}
noncomputable def Ob:bq:={params:=[45,37,52],cg:=[true,false,false],body:=(.cons (.lW [29,38] [false,false] (.cons (.bin .sub (.call 35 (.cons (.var 45) (.cons (.int 3) .nil))) (.int 1)) (.cons (.bin .sub (.call 35 (.cons (.var 45) (.cons (.int 3) .nil))) (.int 1)) .nil))) (.cons (.i6 (.not (.call 40 (.cons (.call 29 (.cons (.var 37) (.cons (.var 29) (.cons (.var 38) .nil)))) (.cons (.comp [29,38] (.tup (.cons (.bin .add (.var 53) (.var 29)) (.cons (.bin .add (.var 54) (.var 38)) .nil))) (.cons [53,54] (.of (.var 52)) .nil .nil)) .nil)))) (.cons (.ret (.bool false)) .nil) .nil) (.cons (.lW [28,34] [false,false] (.cons (.bin .sub (.call 35 (.cons (.var 45) (.cons (.int 6) .nil))) (.int 3)) (.cons (.bin .sub (.call 35 (.cons (.var 45) (.cons (.int 5) .nil))) (.int 2)) .nil))) (.cons (.lW [32,33] [false,false] (.cons (.call 35 (.cons (.var 45) (.cons (.int 5) .nil))) (.cons (.call 35 (.cons (.var 45) (.cons (.int 5) .nil))) .nil))) (.cons (.asg 66 (.comp [28,34,32,33] (.tup (.cons (.var 53) (.cons (.var 54) .nil))) (.cons [53,54] (.of (.var 52)) (.cons (.and (.cons (.ud .le .lt (.var 28) (.var 53) (.bin .add (.var 28) (.var 32))) (.cons (.ud .le .lt (.var 34) (.var 54) (.bin .add (.var 34) (.var 33))) .nil))) .nil) .nil))) (.cons (.i6 (.not (.call 40 (.cons (.call 30 (.cons (.var 37) (.cons (.var 28) (.cons (.var 34) (.cons (.var 32) (.cons (.var 33) .nil)))))) (.cons (.var 66) .nil)))) (.cons (.ret (.bool false)) .nil) .nil) (.cons (.asg 67 (.comp [28,32] (.tup (.cons (.var 53) (.cons (.var 54) .nil))) (.cons [54] (.iH (.var 34) (.bin .add (.var 34) (.var 33))) .nil (.cons [53] (.iH (.var 28) (.bin .add (.var 28) (.var 32))) .nil .nil)))) (.cons (.i6 (.not (.call 40 (.cons (.call 22 (.cons (.var 28) (.cons (.var 34) (.cons (.var 32) (.cons (.var 33) .nil))))) (.cons (.var 67) .nil)))) (.cons (.ret (.bool false)) .nil) .nil) (.cons (.qh 68 (.lst .nil)) (.cons (.jQ [53,54] (.of (.var 52)) (.cons (.i6 (.cmp .ne (.comp [52] (.var 6) (.cons [6] (.of (.lst (.cons (.tup (.cons (.bin .add (.var 53) (.int 1)) (.cons (.var 54) .nil))) (.cons (.tup (.cons (.bin .sub (.var 53) (.int 1)) (.cons (.var 54) .nil))) (.cons (.tup (.cons (.var 53) (.cons (.bin .add (.var 54) (.int 1)) .nil))) (.cons (.tup (.cons (.var 53) (.cons (.bin .sub (.var 54) (.int 1)) .nil))) .nil)))))) (.cons (.cmp .iW (.var 6) (.var 52)) .nil) .nil)) (.lst .nil)) (.cons (.app 68 (.tup (.cons (.var 53) (.cons (.var 54) .nil)))) .nil) .nil) .nil)) (.cons (.ret (.call 40 (.cons (.call 33 (.cons (.var 37) .nil)) (.cons (.var 68) .nil)))) .nil)))))))))))}
noncomputable def RO:bq:={params:=[69],cg:=[false],body:=.nil}
noncomputable def L3:bq:={params:=[42],cg:=[false],body:=(.cons (.qh 45 (.call 34 (.cons (.var 42) (.cons (.int 0) .nil)))) (.cons (.asg 49 (.call 37 (.cons (.var 45) .nil))) (.cons (.asg 7 (.call 42 (.cons (.var 45) (.cons (.var 49) .nil)))) (.cons (.lW [1,5,61,62] [false,false,false,false] (.cons (.call 39 (.cons (.var 49) .nil)) (.cons (.call 39 (.cons (.var 7) .nil)) (.cons (.call 38 (.cons (.var 49) .nil)) (.cons (.call 38 (.cons (.var 7) .nil)) .nil))))) (.cons (.i6 (.or (.cons (.not (.call 40 (.cons (.var 1) (.cons (.var 61) .nil)))) (.cons (.not (.call 40 (.cons (.var 5) (.cons (.var 62) .nil)))) (.cons (.not (.call 41 (.cons (.var 1) (.cons (.var 61) (.cons (.var 49) .nil))))) .nil)))) (.cons (.ret (.bool false)) .nil) .nil) (.cons (.i6 (.or (.cons (.not (.call 41 (.cons (.var 5) (.cons (.var 62) (.cons (.var 7) .nil))))) (.cons (.not (.call 43 (.cons (.var 1) (.cons (.var 5) (.cons (.var 61) (.cons (.var 62) .nil)))))) .nil))) (.cons (.ret (.bool false)) .nil) .nil) (.cons (.i6 (.not (.call 44 (.cons (.var 45) (.cons (.var 1) (.cons (.var 61) .nil))))) (.cons (.ret (.bool false)) .nil) .nil) (.cons (.asg 70 (.lst (.cons (.lam 6 []) (.cons (.lam 7 []) (.cons (.lam 8 [1]) .nil))))) (.cons (.i6 (.cmp .ne (.comp [] (.var 69) (.cons [69] (.of (.var 70)) (.cons (.not (.call 45 (.cons (.var 69) .nil))) .nil) .nil)) (.lst .nil)) (.cons (.ret (.bool false)) .nil) .nil) (.cons (.i6 (.di 65 (.new 1 (.cons (.dct [2] (.cons (.lst (.cons (.tup (.cons (.int 0) (.cons (.int 2) .nil))) .nil)) .nil)) .nil)) (.cons (.new 1 (.cons (.dct [2] (.cons (.lst (.cons (.tup (.cons (.int 0) (.cons (.int 3) .nil))) .nil)) .nil)) .nil)) .nil)) (.cons (.ret (.bool false)) .nil) .nil) (.cons (.ret (.di 65 (.new 1 (.cons (.dct [2,5] (.cons (.lst (.cons (.tup (.cons (.int 0) (.cons (.int 2) .nil))) .nil)) (.cons (.lst .nil) .nil))) .nil)) (.cons (.new 1 (.cons (.dct [2] (.cons (.lst (.cons (.tup (.cons (.int 0) (.cons (.int 2) .nil))) .nil)) .nil)) .nil)) .nil))) .nil)))))))))))}
noncomputable def l0:eA:={params:=[17,18],bL:=[],body:=(.or (.cons (.var 17) (.cons (.var 18) .nil)))}
noncomputable def l1:eA:={params:=[17,18],bL:=[],body:=(.and (.cons (.var 17) (.cons (.var 18) .nil)))}
noncomputable def l2:eA:={params:=[17,18],bL:=[],body:=(.and (.cons (.var 17) (.cons (.not (.var 18)) .nil)))}
noncomputable def l3:eA:={params:=[17,18],bL:=[],body:=(.cmp .ne (.var 17) (.var 18))}
noncomputable def l4:eA:={params:=[26],bL:=[52],body:=(.comp [26] (.tup (.cons (.var 53) (.cons (.bin .add (.var 53) (.int 1)) .nil))) (.cons [53,54] (.of (.rev (.var 52))) (.cons (.cmp .eq (.var 54) (.var 26)) .nil) .nil))}
noncomputable def l5:eA:={params:=[10],bL:=[],body:=(.tup (.cons (.sub (.var 10) (.int 1)) (.cons (.sub (.var 10) (.int 0)) .nil)))}
noncomputable def l6:eA:={params:=[],bL:=[],body:=.var 0}
noncomputable def l7:eA:={params:=[],bL:=[],body:=.var 0}
noncomputable def l8:eA:={params:=[],bL:=[1],body:=.var 0}
noncomputable def bz:Prog:={fns:=[f0,f1,f2,f3,f4,f5,f6,f7,f8,f9,P9,O1,Nk,Qa,Oa,Qc,Qd,Qe,Qf,Qg,Qh,Qi,Qj,Qk,O2,Ql,Qm,Qn,Qo,Qp,O3,Qq,Qs,O4,Nl,Qt,Qu,Qv,O5,Qw,Qx,O6,Qy,Nm,Ob,RO,L3],zO:=[l0,l1,l2,l3,l4,l5,l6,l7,l8],Cw:=[3,14],meths:=[(0,16,4),(1,4,15),(1,31,16),(1,27,17),(1,16,18),(1,56,19),(1,57,20),(1,65,21)],signs:=[.str (PySem.Str.ofString ""),.str (PySem.Str.ofString "....."),.str (PySem.Str.ofString "#...."),.str (PySem.Str.ofString "##.##"),.str (PySem.Str.ofString "#####"),.str (PySem.Str.ofString ".###."),.str (PySem.Str.ofString "#.#.#"),.str (PySem.Str.ofString "....#"),.str (PySem.Str.ofString "#####"),.str (PySem.Str.ofString ".###.")],refused:=45,odd:=[6,7,8]}
noncomputable def DT:List String:=["found","first","last","pairs","spans","second","one","other","at","to","place","self","places","begin","end","keeps","holds","is_in","is_there","low","high","total","middle","x","by","rows","y","is_empty","left","right","tall","heights","width","height","top","spans_at","put_together","region","down","inner","cell","k","script","big","stirred","source","figure","things","turn","picture","row","sign","dots","a","b","told","area","box","across","way","both","here","there","alone","beside","like","kept","whole","outer","call","odd"]
section
open PySem.W PyProof.Rows PySem.Calls
noncomputable abbrev PM:=Addr→Option Obj
noncomputable def PM.le(f g:PM):Prop:=∀a o,f a=some o→g a=some o
noncomputable def PM.on(f:PM)(h:Heap):Prop:=∀a o,f a=some o→h.get? a=some o
noncomputable def PM.put(f:PM)(a:Addr)(o:Obj):PM:=λb=>if b=a then some o else f b
theorem PM.le_refl(f:PM):f.le f:=λa a e=>e
theorem PM.le.trans{f g h:PM}(a:f.le g)(b:g.le h):f.le h:=λc c e=>b _ _ (a _ _ e)
theorem PM.cK{f:PM}{o:Obj}(h:f a=none):f.le (f.put a o):=λb x e=>by
 unfold PM.put;by_cases q:b=a
 ·subst q;rw[h]at e;exact no e
 ·exact rl (if_neg q) e
theorem PM.bA(f:PM)(a:Addr)(o:Obj):f.put a o a=some o:=if_pos rfl
theorem PM.C4{f:PM}(F:f.on h)(e:h.get? a=some o):(f.put a o).on h:=λb x q=>by
 unfold PM.put at q;by_cases z:b=a
 ·subst z;rw[if_pos rfl]at q;exact one q e
 ·rw[if_neg z]at q;exact F _ _ q
noncomputable abbrev dR(vs:List Value)(n:Nat):Obj:={cls:=.type "list",data:=.seq vs.toArray n}
noncomputable abbrev jB(vs:List Value)(n:Nat):Obj:={cls:=.type "tuple",data:=.seq vs.toArray n}
noncomputable abbrev dm(es:List DictEntry)(n:Nat):Obj:={cls:=.type "dict",data:=.dict es.toArray n}
noncomputable abbrev sQ(C dx:Addr):Obj:={cls:=.ref C,dict:=some dx,data:=.plain}
noncomputable def O8:List Addr:=[51,58,65,79,86,100,107,114,121,128,135,142,149,154,166,173,180,187,194,199,204,211,223,228,235,242,249,256,263,268,275,282,289,296,303,310,317,323,330,337,342,349,354,359,364,371,376]
noncomputable def ia(g:Nat):Addr:=O8.getD g 0
noncomputable def ik(c:Nat):Addr:=match c with |0=>89|_=>214
noncomputable def nm(x:Nat):Str:=Str.ofString (DT.getD x "")
section
mutual
inductive bP(f:PM):Value→D→Prop
 |none:bP f .none .none
 |bool (b:Bool):bP f (.bool b) (.bool b)
 |int (i:Int) (t:Tok):bP f (.int i t) (.int i)
 |str (s:Str) (t:Tok):bP f (.str s t) (.str s)
 |tup {a:Addr} {vs:List Value} {n:Nat} {ds:List D}:f a=some (jB vs n)→bQ f vs ds→bP f (.ref a) (.tup ds)
 |lst {a:Addr} {vs:List Value} {n:Nat} {ds:List D}:f a=some (dR vs n)→bQ f vs ds→bP f (.ref a) (.lst ds)
 |dct {a:Addr} {es:List DictEntry} {n:Nat} {l:List (Int×D)}:f a=some (dm es n)→(l.map (λx=>x.1)).Nodup→fH f es l→bP f (.ref a) (.dct l)
 |inst {a d:Addr} {es:List DictEntry} {n c:Nat} {fs:List (Nat×D)}:f a=some (sQ (ik c) d)→f d=some (dm es n)→iK f es fs→bP f (.ref a) (.inst c fs)
 |fn (g:Nat):g<47→bP f (.ref (ia g)) (.fn g)
 |ie {a:Addr} {k:Nat} {bL:List (Nat×D)} {name qual:Str} {cl:List (Str×Addr)} {pm ct:Value} {c':Addr} {oc:Obj} {yd:Array Value} {BU:Tok}:
   f a=some {cls:=.type "function",data:=.func (kla_fn name qual (fh k).params (fh k).body (fh k).scope cl pm (.ref c') ct)}→
   f c'=some oc→oc.data= .fields yd→yd[1]? =some (.str qual BU)→jp f cl bL→bP f (.ref a) (.ie k bL)
inductive bQ(f:PM):List Value→List D→Prop
 |nil:bQ f [] []
 |cons {v:Value} {d:D} {vs:List Value} {ds:List D}:bP f v d→bQ f vs ds→bQ f (v::vs) (d::ds)
inductive fH(f:PM):List DictEntry→List (Int×D)→Prop
 |nil:fH f [] []
 |cons {i:Int} {t:Tok} {v:Value} {d:D} {es:List DictEntry} {l:List (Int×D)}:bP f v d→fH f es l→fH f (⟨hashInt i,.int i t,v⟩::es) ((i,d)::l)
inductive iK(f:PM):List DictEntry→List (Nat×D)→Prop
 |nil:iK f [] []
 |cons {x:Nat} {t:Tok} {v:Value} {d:D} {hs:Int} {es:List DictEntry} {l:List (Nat×D)}:x<71→bP f v d→iK f es l→iK f (⟨hs,.str (nm x) t,v⟩::es) ((x,d)::l)
inductive jp(f:PM):List (Str×Addr)→List (Nat×D)→Prop
 |nil:jp f [] []
 |cons {x:Nat} {c:Addr} {oc:Obj} {v:Value} {d:D} {cl:List (Str×Addr)} {l:List (Nat×D)}:f c=some oc→oc.data= .cell (some v)→bP f v d→jp f cl l→jp f ((nm x,c)::cl) ((x,d)::l)
end
end
section
theorem bP.mono{f g:PM}(h:f.le g)(x:bP f v d):bP g v d:=
 bP.rec (motive_1:=λv d i=>bP g v d) .none .bool .int .str (λe i r=>.tup (h _ _ e) r) (λe i r=>.lst (h _ _ e) r) (λe n i r=>.dct (h _ _ e) n r) (λe j i r=>.inst (h _ _ e) (h _ _ j) r) .fn (λe j a b i r=>.ie (h _ _ e) (h _ _ j) a b r) .nil (λi i a r=>.cons a r) .nil (λi i a r=>.cons a r) .nil (λz i i a r=>.cons z a r) .nil (λb c i i a r=>.cons (h _ _ b) c a r) x
theorem bQ.mono{f g:PM}(h:f.le g)(x:bQ f v d):bQ g v d:=
 bQ.rec (motive_2:=λv d i=>bQ g v d) .none .bool .int .str (λe i r=>.tup (h _ _ e) r) (λe i r=>.lst (h _ _ e) r) (λe n i r=>.dct (h _ _ e) n r) (λe j i r=>.inst (h _ _ e) (h _ _ j) r) .fn (λe j a b i r=>.ie (h _ _ e) (h _ _ j) a b r) .nil (λi i a r=>.cons a r) .nil (λi i a r=>.cons a r) .nil (λz i i a r=>.cons z a r) .nil (λb c i i a r=>.cons (h _ _ b) c a r) x
theorem fH.mono{f g:PM}(h:f.le g)(x:fH f v d):fH g v d:=
 fH.rec (motive_3:=λv d i=>fH g v d) .none .bool .int .str (λe i r=>.tup (h _ _ e) r) (λe i r=>.lst (h _ _ e) r) (λe n i r=>.dct (h _ _ e) n r) (λe j i r=>.inst (h _ _ e) (h _ _ j) r) .fn (λe j a b i r=>.ie (h _ _ e) (h _ _ j) a b r) .nil (λi i a r=>.cons a r) .nil (λi i a r=>.cons a r) .nil (λz i i a r=>.cons z a r) .nil (λb c i i a r=>.cons (h _ _ b) c a r) x
theorem iK.mono{f g:PM}(h:f.le g)(x:iK f v d):iK g v d:=
 iK.rec (motive_4:=λv d i=>iK g v d) .none .bool .int .str (λe i r=>.tup (h _ _ e) r) (λe i r=>.lst (h _ _ e) r) (λe n i r=>.dct (h _ _ e) n r) (λe j i r=>.inst (h _ _ e) (h _ _ j) r) .fn (λe j a b i r=>.ie (h _ _ e) (h _ _ j) a b r) .nil (λi i a r=>.cons a r) .nil (λi i a r=>.cons a r) .nil (λz i i a r=>.cons z a r) .nil (λb c i i a r=>.cons (h _ _ b) c a r) x
theorem jp.mono{f g:PM}(h:f.le g)(x:jp f v d):jp g v d:=
 jp.rec (motive_5:=λv d i=>jp g v d) .none .bool .int .str (λe i r=>.tup (h _ _ e) r) (λe i r=>.lst (h _ _ e) r) (λe n i r=>.dct (h _ _ e) n r) (λe j i r=>.inst (h _ _ e) (h _ _ j) r) .fn (λe j a b i r=>.ie (h _ _ e) (h _ _ j) a b r) .nil (λi i a r=>.cons a r) .nil (λi i a r=>.cons a r) .nil (λz i i a r=>.cons z a r) .nil (λb c i i a r=>.cons (h _ _ b) c a r) x
theorem bQ.length:∀{ds:List D},bQ f vs ds→vs.length=ds.length:=by
 induction vs with
 |nil=>intro ds h;cases h;rfl
 |cons v vs a=>intro ds h;cases h with |cons _ r=>exact congrArg (λx=>x+1) (a r)
theorem bQ.append:∀{ws:List Value} {ds b:List D},bQ f vs ds→bQ f ws b→bQ f (vs++ws) (ds++b):=by
 induction vs with
 |nil=>intro ws ds b a h;cases a;exact h
 |cons v vs c=>intro ws ds b a h;cases a with |cons a r=>exact .cons a (c r h)
theorem bQ.get:∀{ds:List D} {k:Nat} {d:D},bQ f vs ds→ds[k]? =some d→∃v,vs[k]? =some v∧bP f v d:=by
 induction vs with
 |nil=>intro ds k d h e;cases h;exact no e
 |cons v vs b=>
  intro ds k d h e;cases h with
  |cons a r=>
   cases k with
   |zero=>exact⟨_,rfl,Option.some.inj e▸a⟩
   |succ k=>exact b r e
theorem bQ.set:∀{ds:List D} {k:Nat} {v:Value} {d:D},bQ f vs ds→bP f v d→bQ f (vs.set k v) (ds.set k d):=by
 induction vs with
 |nil=>intro ds k v d h o;cases h;exact .nil
 |cons v vs b=>
  intro ds k v d h o;cases h with
  |cons a r=>
   cases k with
   |zero=>exact .cons o r
   |succ k=>exact .cons a (b r o)
end
noncomputable def jG(f:PM)(as:List (Addr×Addr))(v:Value):V→Prop
 | .d x=>bP f v x
 | .loc k=>∃p,as[k]? =some p∧v= .ref p.1
inductive cA(f:PM)(as:List (Addr×Addr)):List DictEntry→List (Nat×V)→Prop
 |nil:cA f as [] []
 |cons {x:Nat} {t:Tok} {v:Value} {d:V} {hs:Int} {es:List DictEntry} {l:List (Nat×V)}:x<71→jG f as v d→cA f as es l→cA f as (⟨hs,.str (nm x) t,v⟩::es) ((x,d)::l)
noncomputable def fN(f:PM)(as:List (Addr×Addr))(h:Heap)(p:Addr×Addr):Cell→Prop
 | .lst l=>p.1=p.2∧f p.2=none∧∃vs n,h.get? p.2=some (dR vs n)∧bQ f vs l
 | .dct l=>p.1=p.2∧f p.2=none∧∃es n,h.get? p.2=some (dm es n)∧(l.map (λx=>x.1)).Nodup∧fH f es l
 | .inst c fs=>f p.1=some (sQ (ik c) p.2)∧f p.2=none∧∃es n,h.get? p.2=some (dm es n)∧cA f as es fs
 | .eE d=>bP f (.ref p.1) d
noncomputable def Cell.live:Cell→Bool
 | .eE _=>false
 |_=>true
noncomputable def iJ:List (Addr×Addr×Str):=[(102,106,Str.ofString "union.<locals>.<lambda>"),(109,113,Str.ofString "common.<locals>.<lambda>"),(116,120,Str.ofString "less.<locals>.<lambda>"),
 (123,127,Str.ofString "exclusive.<locals>.<lambda>"),(332,336,Str.ofString "_law_made.<locals>.<lambda>"),(339,341,Str.ofString "_law_is.<locals>.<lambda>"),(373,375,Str.ofString "law.<locals>.<lambda>")]
noncomputable def cT:List Addr:=[102,109,116,123,332,339,373]
noncomputable def kQ(h h':Heap)(X:List Addr):Prop:=∀b o,h.get? b=some o→b∉X→b∉cT→h'.get? b=some o
noncomputable def Ax(f:PM)(h:Heap)(P:Addr)(q:Str):Prop:=∃ps:Array Value,h.get? P=some (tabObj ps)∧TriplesOk ps.toList∧
 ∀pos cv,codeAmong pos ps.toList=some cv→∃c' oc vs t,cv= .ref c'∧f c'=some oc∧oc.data= .fields vs∧vs[1]? =some (.str q t)
structure Hp(h₀:Heap)(f:PM)(as:List (Addr×Addr))(h:Heap)(σ:ak):Prop where
 on:f.on h
 base:∀a o,h₀.get? a=some o→f a=some o
 tabs:∀t∈iJ,Ax f h t.1 t.2.2
 jA:∀a∈cT,f a=none
 len:as.length=σ.length
 cells:∀(k:Nat) p c,as[k]? =some p→σ[k]? =some c→fN f as h p c
 apart:∀(j k:Nat) p q c d,j≠k→as[j]? =some p→as[k]? =some q→σ[j]? =some c→σ[k]? =some d→c.live=true→d.live=true→p.2≠q.2
 gE:∀p∈as,p.2∉cT
 has:∀p∈as,∃o,h.get? p.2=some o
structure Step(f:PM)(h:Heap)(X Z:List Addr)(f':PM)(h':Heap):Prop where
 le:f.le f'
 keep:kQ h h' X
 new:∀a o,f' a=some o→f a=some o∨h.get? a=none∨a∈X∨a∈Z∨a∈cT
noncomputable def Env.adr(env:Env):List Addr:=env.locals::env.cells.map (λx=>x.2)
noncomputable def Bound(h:Heap)(env:Env)(x:Str)(v:Value):Prop:=
 (env.kindOf x=some .local∧∃m,h.Ns env.locals m∧m x=some v)∨
 ((env.kindOf x=some .cell∨env.kindOf x=some .free)∧∃c,env.cells.lookup x=some c∧h.IsCell c (some v))
structure jq(env:Env):Prop where
 kind:env.scope.kind= .function
 glob:env.globals=mainGlobals
 blt:env.builtins=builtinsNs
structure Vr(op:Bool)(f:PM)(as:List (Addr×Addr))(env:Env)(h:Heap)(ρ:aB):Prop where
 ok:jq env
 vars:∀x V,ρ.lookup x=some V→x<71∧∃v,Bound h env (nm x) v∧jG f as v V
 ns:∃m,h.Ns env.locals m
 cell:∀p∈env.cells,∃v,h.IsCell p.2 v
 apart:∀p∈as,p.2∉Env.adr env
 tab:∀a∈Env.adr env,a∉cT
 g7:f env.locals=none
 jJ:op=true→∀p∈env.cells,f p.2=none
 inj:(env.cells.map (λx=>x.2)).Nodup
 ig:∀p∈env.cells,p.2≠env.locals
theorem kQ.refl(h:Heap)(X:List Addr):kQ h h X:=λa a e a a=>e
theorem kQ.trans(a:kQ h h1 X)(b:kQ h1 h2 X):kQ h h2 X:=λc o e n t=>b c o (a c o e n t) n t
theorem kQ.mono(a:kQ h h1 X)(s:∀b∈X,b∈Y):kQ h h1 Y:=λc o e n t=>a c o e (λq=>n (s _ q)) t
theorem kQ.Mq(k:∀b o,h.get? b=some o→h1.get? b=some o):kQ h h1 X:=λc o e a a=>k c o e
theorem Step.refl(f:PM)(h:Heap)(X Z:List Addr):Step f h X Z f h:=⟨f.le_refl,kQ.refl h X,λa a e=>.inl e⟩
theorem Step.trans{f i f2:PM}(a:Step f h X Z i h1)(b:Step i h1 X Z f2 h2):Step f h X Z f2 h2:=by
 refine⟨a.le.trans b.le,a.keep.trans b.keep,λx o e=>?_⟩;refine Or.elim (b.new x o e) (λq=>?_) λc=>Or.elim c (λq=>?_) λc=>Or.elim c (λq=>?_) λc=>Or.elim c (λq=>?_) λq=>?_
 ·exact a.new x o q
 ·cases z:h.get? x with
  |none=>exact .inr (.inl rfl)
  |some j=>
   by_cases d:x∈X
   ·exact .inr (.inr (.inl d))
   ·by_cases g:x∈cT
    ·exact .inr (.inr (.inr (.inr g)))
    ·have:=a.keep x j z d g;rw[q]at this;exact no this
 ·exact .inr (.inr (.inl q))
 ·exact .inr (.inr (.inr (.inl q)))
 ·exact .inr (.inr (.inr (.inr q)))
theorem Step.wide{d:PM}(a:Step f h X Z d h1)(c:∀b∈X,b∈X')(g:∀b∈Z,b∈Z'):Step f h X' Z' d h1:=
 ⟨a.le,a.keep.mono c,λx o e=>(a.new x o e).imp id (.imp id (.imp (c x) (.imp (g x) id)))⟩
section
variable{h₀ h h':Heap}{f f':PM}{as:List (Addr×Addr)}{σ:ak}{env:Env}{ρ:aB}{op:Bool}{X Z:List Addr}
theorem jG.mono(l:f.le f'):∀{V:V} {v:Value},jG f as v V→jG f' as v V
 | .d _,_,h=>bP.mono l h
 | .loc _,_,h=>h
theorem jG.more:∀{V:V} {v:Value},jG f as v V→jG f (as++bs) v V
 | .d _,_,h=>h
 | .loc _,_,⟨p,e,q⟩=>⟨p,by refine rl (List.getElem?_append_left (List.getElem?_eq_some_iff.mp e).1) ?_;exact e,q⟩
theorem Heap.IsCell.at(x:h.IsCell c v)(k:∀o,h.get? c=some o→h'.get? c=some o):h'.IsCell c v:=let⟨o,a,b⟩:=x;⟨o,k o a,b⟩
theorem Heap.Ns.at'(x:h.Ns c m)(k:∀o,h.get? c=some o→h'.get? c=some o):h'.Ns c m:=let⟨o,es,ep,a,r⟩:=x;⟨o,es,ep,k o a,r⟩
theorem Bound.step(b:Bound h env x v)(k:∀a∈Env.adr env,∀o,h.get? a=some o→h'.get? a=some o):Bound h' env x v:=by
 refine Or.elim b (λd=>?_) λd=>?_
 ·obtain⟨a,m,n,e⟩:=d;exact .inl ⟨a,m,Heap.Ns.at' n (k _ (List.mem_cons_self ..)),e⟩
 ·obtain⟨a,c,e,i⟩:=d;refine .inr ⟨a,c,e,Heap.IsCell.at i (k _ (List.mem_cons_of_mem _ ?_))⟩;exact List.mem_map.mpr ⟨_,PySem.mem_of_lookup e,rfl⟩
theorem Vr.has(v:Vr op f as env h ρ):∀a∈Env.adr env,∃o,h.get? a=some o:=by
 refineλa c=>Or.elim (List.mem_cons.mp c) (λb=>?_) λc=>?_
 ·subst b;refine tN v.ns λm o b b e b=>?_;exact⟨o,e⟩
 ·refine ay (List.mem_map.mp c) λp g d=>?_;clear c;clear c;subst d;exact cJ (v.cell p g) λw o e b=>⟨o,e⟩
theorem Vr.keeps(v:Vr op f as env h ρ)(s:Step f h (as.map (λx=>x.2)) Z f' h'):∀a∈Env.adr env,∀o,h.get? a=some o→h'.get? a=some o:=by refineλa c o e=>s.keep a o e (λq=>?_) (v.tab a c);refine ay (List.mem_map.mp q) λp d b=>?_;clear s e q;subst b;exact v.apart p d c
theorem Vr.fresh(v:Vr op f as env h ρ)(s:Step f h (as.map (λx=>x.2)) Z f' h')(c:a∈Env.adr env)(g:a∉Z)(e:f a=none):f' a=none:=by
 cases q:f' a with
 |none=>rfl
 |some o=>
  rcases s.new a o q with w|w|w|w|w
  ·rw[e]at w;exact no w
  ·refine aT (v.has a c) λj d=>?_;rw[w]at d;exact no d
  ·refine ay (List.mem_map.mp w) λp i b=>?_;clear s e q;subst b;exact absurd c (v.apart p i)
  ·exact absurd w g
  ·exact absurd w (v.tab a c)
theorem Vr.step(v:Vr op f as env h ρ)(s:Step f h (as.map (λx=>x.2)) Z f' h')(g:env.locals∉Z)(d:op'=true→op=true∧∀p∈env.cells,p.2∉Z):Vr op' f' as env h' ρ where
 ok:=v.ok
 vars:=λx V e=>let⟨z,w,b,o⟩:=v.vars x V e;⟨z,w,b.step (v.keeps s),o.mono s.le⟩
 ns:=let⟨m,n⟩:=v.ns;⟨m,Heap.Ns.at' n (v.keeps s _ (List.mem_cons_self ..))⟩
 cell:=λp a=>let⟨w,c⟩:=v.cell p a;⟨w,Heap.IsCell.at c (v.keeps s _ (List.mem_cons_of_mem _ (List.mem_map.mpr ⟨p,a,rfl⟩)))⟩
 apart:=v.apart
 tab:=v.tab
 g7:=v.fresh s (List.mem_cons_self ..) g v.g7
 jJ:=λo p a=>v.fresh s (List.mem_cons_of_mem _ (List.mem_map.mpr ⟨p,a,rfl⟩)) ((d o).2 p a) (v.jJ (d o).1 p a)
 inj:=v.inj
 ig:=v.ig
theorem Vr.step0(v:Vr op f as env h ρ)(s:Step f h (as.map (λx=>x.2)) [] f' h'):Vr op f' as env h' ρ:=v.step s (λq=>nomatch q) λo=>⟨o,λb b q=>nomatch q⟩
end
structure bO(A:Around)(n:Nat):Prop where
 hd:A.handled=none
 depth:A.depth+2*n<recursionLimit
 units:A.units+40*n+200<cLine
section
variable(w:World)(h₀:Heap)(n:Nat)
noncomputable abbrev Env.qK(env:Env):List Addr:=env.cells.map (λx=>x.2)
structure cH(op':Bool)(env:Env)(f:PM)(as:List (Addr×Addr))(h:Heap)(ρ:aB)(σ':ak)(f':PM)(h':Heap):Prop where
 step:Step f h (as.map (λx=>x.2)++Env.adr env) (Env.qK env) f' h'
 hp:Hp h₀ f' as h' σ'
 vr:Vr op' f' as env h' ρ
noncomputable def ON{α:Type}(env:Env)(op op':Bool)(t:PySem.Sem Value)(R:PM→List (Addr×Addr)→Value→α→Prop)(ρ:aB)(σ:ak)(v:α)(σ':ak):Prop:=
 ∀(A:Around) (f:PM) (as:List (Addr×Addr)) (s:Shared) (Q:Value→Shared→Prop) (E:Value→Shared→Prop),
  bO A n→Hp h₀ f as s.heap σ→Vr op f as env s.heap ρ→
  (∀f' h' tk val,cH h₀ op' env f as s.heap ρ σ' f' h'→R f' as val v→Q val {s with heap:=h',toks:=tk})→
  wpAny (model P0 w) A t Q E s
noncomputable def PU{α:Type}(env:Env)(op op':Bool)(t:PySem.Sem Value)(R:PM→List (Addr×Addr)→Value→α→Prop)(ev:aB→ak→Option (α×ak)):Prop:=
 ∀(ρ:aB) (σ:ak) (v:α) (σ':ak),ev ρ σ=some (v,σ')→ON w h₀ n env op op' t R ρ σ v σ'
noncomputable def aY(env:Env)(op op':Bool)(e:Expr)(ev:aB→ak→Option (V×ak)):Prop:=PU w h₀ n env op op' (eval e env) jG ev
noncomputable def vG(env:Env)(op op':Bool)(e:Expr)(ev:aB→ak→Option (D×ak)):Prop:=PU w h₀ n env op op' (eval e env) (λf zz v x=>bP f v x) ev
noncomputable def BW(env:Env)(op op':Bool)(e:Expr)(ρ:aB)(σ:ak)(b:Bool)(σ':ak):Prop:=
 ∀(A:Around) (f:PM) (as:List (Addr×Addr)) (s:Shared) (Q:Bool→Shared→Prop) (E:Value→Shared→Prop),
  bO A n→Hp h₀ f as s.heap σ→Vr op f as env s.heap ρ→
  (∀f' h' tk,cH h₀ op' env f as s.heap ρ σ' f' h'→Q b {s with heap:=h',toks:=tk})→
  wpAny (model P0 w) A (isTrue e env (eval e env)) Q E s
noncomputable def mU(env:Env)(op op':Bool)(e:Expr)(ev:aB→ak→Option (Bool×ak)):Prop:=
 ∀(ρ:aB) (σ:ak) (b:Bool) (σ':ak),ev ρ σ=some (b,σ')→BW w h₀ n env op op' e ρ σ b σ'
end
section
variable{h₀ h h' h2:Heap}{f f' f2:PM}{as:List (Addr×Addr)}{σ σ' σ2:ak}{env:Env}{ρ:aB}{op op':Bool}
theorem cH.refl(H:Hp h₀ f as h σ)(V:Vr op f as env h ρ):cH h₀ op env f as h ρ σ f h:=⟨.refl ..,H,V⟩
theorem cH.trans(a:cH h₀ dU env f as h ρ σ f' h')(b:cH h₀ jD env f' as h' ρ σ2 f2 h2):cH h₀ jD env f as h ρ σ2 f2 h2:=⟨a.step.trans b.step,b.hp,b.vr⟩
theorem cH.of(V:Vr op f as env h ρ)(s:Step f h (as.map (λx=>x.2)) [] f' h')(H:Hp h₀ f' as h' σ'):cH h₀ op env f as h ρ σ' f' h':=⟨s.wide (λd q=>List.mem_append_left _ q) (λd q=>nomatch q),H,V.step0 s⟩
end
section
variable{h₀ h h':Heap}{f f':PM}{as:List (Addr×Addr)}{σ:ak}{env:Env}{ρ ρ':aB}{op op':Bool}{X Z:List Addr}
theorem aq(s:h.objs.size≤a):h.get? a=none:=by
 cases q:h.get? a with
 |none=>rfl
 |some o=>exact absurd (Heap.lt_size q) (Nat.not_lt.mpr s)
theorem PM.dS(F:f.on h)(s:h.get? a=none):f a=none:=by
 cases q:f a with
 |none=>rfl
 |some o=>replace s:=(F _ _ q)▸s;cases s
theorem Hp.tabAt(H:Hp h₀ f as h σ)(b:a∈cT):∃o,h.get? a=some o:=by
 have d:∀t∈iJ,∃o,h.get? t.1=some o:=λt g=>let⟨_,e,_⟩:=H.tabs t g;⟨_,e⟩
 have e:cT=iJ.map (λx=>x.1):=rfl;replace b:=e▸b;refine ay (List.mem_map.mp b) λt g c=>?_;clear H e b;subst c;exact d t g
theorem fN.at(C:fN f as h p c)(a:c.live=true):(∃o,h.get? p.2=some o)∧f p.2=none:=by
 cases c with
 |lst l=>exact⟨let⟨_,_,vs,n,e,_⟩:=C;⟨_,e⟩,C.2.1⟩
 |dct l=>exact⟨let⟨_,_,vs,n,e,_⟩:=C;⟨_,e⟩,C.2.1⟩
 |inst c fs=>exact⟨let⟨_,_,vs,n,e,_⟩:=C;⟨_,e⟩,C.2.1⟩
 |eE d=>exact ft a
theorem Hp.cellAt(H:Hp h₀ f as h σ){k:Nat}(e:as[k]? =some p)(b:σ[k]? =some c)(a:c.live=true):(∃o,h.get? p.2=some o)∧f p.2=none:=(H.cells k p c e b).at a
theorem cA.mono(l:f.le f'):∀{es:List DictEntry} {fs:List (Nat×V)},cA f as es fs→cA f' as es fs
 |_,_,.nil=>.nil
 |_,_,.cons z a r=>.cons z (a.mono l) (r.mono l)
theorem cA.more(h:cA f as es fs):cA f (as++bs) es fs:=by
 induction h with
 |nil=>exact .nil
 |cons z a _ b=>exact .cons z a.more b
theorem fN.step(C:fN f as h p c)(l:f.le f')(e:c.live=true→h'.get? p.2=h.get? p.2)(n:c.live=true→f' p.2=none):fN f' as h' p c:=by
 cases c with
 |lst x=>exact bR C λa b i=>cJ i λvs m g r=>⟨a,n rfl,vs,m,(e rfl).trans g,r.mono l⟩
 |dct x=>exact bR C λa b i=>fP i λvs m g d r=>⟨a,n rfl,vs,m,(e rfl).trans g,d,r.mono l⟩
 |inst c fs=>exact bR C λa b i=>cJ i λvs m g r=>⟨l _ _ a,n rfl,vs,m,(e rfl).trans g,r.mono l⟩
 |eE d=>exact bP.mono l C
theorem Hp.go(H:Hp h₀ f as h σ)(k:∀b,(∃o,f b=some o)∨(∃p∈as,b=p.2)∨b∈cT→h'.get? b=h.get? b):Hp h₀ f as h' σ where
 on:=λa o e=>(k a (.inl ⟨o,e⟩)).trans (H.on a o e)
 base:=H.base
 tabs:=λt g=>by exact ay (H.tabs t g) λps e r=>⟨ps,(k t.1 (.inr (.inr (List.mem_map.mpr ⟨t,g,rfl⟩)))).trans e,r⟩
 jA:=H.jA
 len:=H.len
 cells:=λi p c e l=>(H.cells i p c e l).step f.le_refl (λn=>k p.2 (.inr (.inl ⟨p,List.mem_of_getElem? e,rfl⟩))) λm=>(H.cellAt e l m).2
 apart:=H.apart
 gE:=H.gE
 has:=λp j=>let⟨o,e⟩:=H.has p j;⟨o,(k p.2 (.inr (.inl ⟨p,j,rfl⟩))).trans e⟩
theorem Hp.keeps(H:Hp h₀ f as h σ)(k:∀b o,h.get? b=some o→h'.get? b=some o):Hp h₀ f as h' σ:=H.go λb q=>by
 have a:∃o,h.get? b=some o:=by
  rcases q with⟨o,e⟩|⟨p,c,rfl⟩|q
  ·exact⟨o,H.on _ _ e⟩
  ·exact H.has p c
  ·exact H.tabAt q
 obtain⟨o,e⟩:=a;rw[e,k _ _ e]
theorem Hp.but(H:Hp h₀ f as h σ){a:Addr}(k:∀b,b≠a→h'.get? b=h.get? b)(i:f a=none)(j:∀p∈as,p.2≠a)(d:a∉cT):Hp h₀ f as h' σ:=H.go λb q=>k b (by
 intro c;subst c;clear H k;rcases q with⟨o,e⟩|⟨p,g,rfl⟩|q
 ·rw[i]at e;exact no e
 ·exact j p g rfl
 ·exact d q)
theorem Hp.put(H:Hp h₀ f as h σ)(d:f a=none)(y:∀(k:Nat) p c,as[k]? =some p→σ[k]? =some c→c.live=true→p.2≠a)(n:a∉cT)(e:h.get? a=some o):Hp h₀ (f.put a o) as h σ where
 on:=PM.C4 H.on e
 base:=λb x q=>PM.cK d _ _ (H.base b x q)
 tabs:=λt v=>by refine bG (H.tabs t v) λps e s r=>⟨ps,e,s,λpos w q=>?_⟩;exact rT (r pos w q) λc' u vs t B A z=>(jC c' u vs t ⟨B,PM.cK d _ _ A,z⟩)
 jA:=λb m=>by show(if b=a then _ else _)=_;exact rl (if_neg λ(q:b=a)=>n (q▸m)) (H.jA b m)
 len:=H.len
 cells:=λi p c e g=>(H.cells i p c e g).step (PM.cK d) (λC=>rfl) λl=>by show(if p.2=a then _ else _)=_;exact rl (if_neg (y i p c e g l)) ((H.cellAt e g l).2)
 apart:=H.apart
 gE:=H.gE
 has:=H.has
theorem Hp.off(H:Hp h₀ f as h σ)(s:h.get? a=none):f a=none∧(∀(k:Nat) p c,as[k]? =some p→σ[k]? =some c→c.live=true→p.2≠a)∧a∉cT:=by
 refine⟨PM.dS H.on s,λk p c e d b q=>?_,λq=>?_⟩
 ·obtain⟨o,e⟩:=(H.cellAt e d b).1;rw[q,s]at e;exact no e
 ·obtain⟨o,e⟩:=H.tabAt q;rw[s]at e;exact no e
theorem Step.keeps(k:∀b o,h.get? b=some o→h'.get? b=some o):Step f h X Z f h':=⟨f.le_refl,kQ.Mq k,λa a e=>.inl e⟩
theorem Step.put(S:Step f h X Z f' h')(d:f' a=none)(s:h.get? a=none):Step f h X Z (f'.put a o) h':=by
 refine⟨S.le.trans (PM.cK d),S.keep,λb x q=>?_⟩;by_cases c:b=a
 ·clear d;subst c;exact .inr (.inl s)
 ·rw[PM.put,if_neg c]at q;exact S.new b x q
theorem Hp.new(H:Hp h₀ f as h σ)(k:∀b o,h.get? b=some o→h'.get? b=some o){a:Addr}(s:h.get? a=none)(e:h'.get? a=some o):
  Hp h₀ (f.put a o) as h' σ∧Step f h X Z (f.put a o) h':=by
 exact bR (H.off s) λd i g=>⟨(H.keeps k).put d i g e,(Step.keeps k).put d s⟩
end
section
variable{h₀ h h':Heap}{f f':PM}{as:List (Addr×Addr)}{σ σ':ak}{env:Env}{ρ ρ':aB}{op op':Bool}{X Z:List Addr}
theorem wJ{p:Nat×V}(e:wI [] p=some g):p=(g.1,.d g.2):=az e λd h e=>by
 obtain⟨x,v⟩:=p;cases v with
 |d y=>exact one e (one h rfl)
 |loc k=>exact no h
theorem mr:∀{gs:List (Nat×D)},fs.mapM (wI [])=some gs→fs=gs.map λg=>(g.1,V.d g.2):=by
 induction fs with
 |nil=>intro gs e;exact one e rfl
 |cons p fs c=>intro gs e;exact jU (P:=λgs=>p::fs=gs.map λg=>(g.1,V.d g.2)) e λy r b a=>by refine rl (wJ b) (rl (c a) ?_);rfl
theorem cA.data:∀{es:List DictEntry},cA f as es (b.map λg=>(g.1,V.d g.2))→iK f es b:=by
 induction b with
 |nil=>intro es h;cases h;exact .nil
 |cons g b c=>intro es h;cases h with |cons z a r=>exact .cons z a (c r)
theorem Hp.L7(H:Hp h₀ f as h σ){k:Nat}{p:Addr×Addr}{c:Cell}(e:as[k]? =some p)(w:σ[k]? =some c)(z:c.live=true)(B:h.get? p.2=some o)(J:bP (f.put p.2 o) (.ref p.1) d):
  Hp h₀ (f.put p.2 o) as h (σ.set k (.eE d)):=by
 have v:=(H.cellAt e w z).2;have y:=(List.getElem?_eq_some_iff.mp w).1;have l:∀i c',(σ.set k (.eE d))[i]? =some c'→(i=k∧c'= .eE d)∨(i≠k∧σ[i]? =some c'):=λi c' q=>by
  by_cases g:i=k
  ·subst g;rw[List.getElem?_set_self y]at q;exact one q (.inl ⟨rfl,rfl⟩)
  ·rw[List.getElem?_set_ne (Ne.symm g)]at q;exact .inr ⟨g,q⟩
 refine⟨PM.C4 H.on B,λb x q=>PM.cK v _ _ (H.base b x q),λt N=>?_,λb F=>?_,by refine rl List.length_set ?_;exact H.len,λi q c' u a=>?_,λi j q r I G A P O n m E D=>?_,H.gE,H.has⟩
 ·refine bG (H.tabs t N) λps e L K=>⟨ps,e,L,λpos Q q=>?_⟩;exact rT (K pos Q q) λc' M vs t T S R=>(jC c' M vs t ⟨T,PM.cK v _ _ S,R⟩)
 ·show(if b=p.2 then _ else _)=_;exact rl (if_neg λ(q:b=p.2)=>H.gE p (List.mem_of_getElem? e) (q▸F)) (H.jA b F)
 ·clear B y;rcases l i c' a with⟨rfl,rfl⟩|⟨g,a⟩
  ·rw[e]at u;exact one u J
  ·refine(H.cells i q c' u a).step (PM.cK v) (λU=>rfl) λs=>?_;show(if q.2=p.2 then _ else _)=_;exact rl (if_neg (H.apart i k q p c' c g u e a w s z)) ((H.cellAt u a s).2)
 ·clear e w z B J v y;rcases l i I n with⟨rfl,rfl⟩|⟨g,n⟩
  ·exact ft E
  ·clear g;rcases l j G m with⟨rfl,rfl⟩|⟨V,m⟩
   ·exact ft D
   ·exact H.apart i j q r I G A P O n m E D
theorem Step.L7(d:f p.2=none)(c:p∈as):Step f h (as.map (λx=>x.2)) Z (f.put p.2 o) h:=by
 refine⟨PM.cK d,kQ.refl _ _,λb x q=>?_⟩;by_cases a:b=p.2
 ·exact .inr (.inr (.inl (List.mem_map.mpr ⟨p,c,a.symm⟩)))
 ·rw[PM.put,if_neg a]at q;exact .inl q
theorem set_same{α:Type}:∀{l:List α} {k:Nat} {x:α},l[k]? =some x→l.set k x=l
 |[],_,_,e=>by exact no e
 |y::l,0,x,e=>by simp at e;subst e;rfl
 |y::l,k+1,x,e=>by refine rl List.set_cons_succ (rl (set_same (by simpa using e)) ?_);rfl
set_option tactic.hygienic true in
theorem Hp.freeze(H:Hp h₀ f as h σ)(e:as[k]? =some p)(s:σ[k]? =some c)(j:c.data []=some d):
  ∃f',Hp h₀ f' as h (σ.set k (.eE d))∧Step f h (as.map (λx=>x.2)) [] f' h∧bP f' (.ref p.1) d:=by
 have C:=H.cells k p c e s;have t:=List.mem_of_getElem? e;obtain⟨o,u⟩:=p;cases c with
 |lst l=>refine one j ?_;refine bR C λa b m=>cJ m λvs n g r=>?_;cases a;have i:bP (f.put o (dR vs n)) (.ref o) (.lst l):=.lst (PM.bA ..) (r.mono (PM.cK b));exact⟨_,H.L7 e s rfl g i,Step.L7 b t,i⟩
 |dct l=>refine one j ?_;refine bR C λa b m=>fP m λvs n g v r=>?_;cases a;have i:bP (f.put o (dm vs n)) (.ref o) (.dct l):=.dct (PM.bA ..) v (r.mono (PM.cK b));exact⟨_,H.L7 e s rfl g i,Step.L7 b t,i⟩
 |inst c fs=>refine bR C λa b m=>cJ m λy n g r=>az j λw q j=>one j ?_;rw[mr q]at r;have i:bP (f.put u (dm y n)) (.ref o) (.inst c w):=.inst (PM.cK b _ _ a) (PM.bA ..) (r.data.mono (PM.cK b));exact⟨_,H.L7 e s rfl g i,Step.L7 b t,i⟩
 |eE x=>cases j;exact rl (set_same s) (⟨f,H,.refl ..,C⟩)
set_option tactic.hygienic true in
theorem Hp.toD(H:Hp h₀ f as h σ){V:V}{x:D}(e:toD σ V=some (x,σ'))(b:jG f as v V):∃f',Hp h₀ f' as h σ'∧Step f h (as.map (λx=>x.2)) [] f' h∧bP f' v x:=by
 cases V with
 |d y=>exact two e (⟨f,H,.refl ..,b⟩)
 |loc k=>refine ay b λp g a=>?_;clear b;subst a;exact az e λc j e=>az e λd i e=>two e (H.freeze g j i)
noncomputable def eB(f:PM)(h:Heap)(v:Value)(d:D):Prop:=bP f v d∨
 (∃a vs n l,v= .ref a∧d= .lst l∧h.get? a=some (dR vs n)∧bQ f vs l)∨(∃a es n l,v= .ref a∧d= .dct l∧h.get? a=some (dm es n)∧(l.map (λx=>x.1)).Nodup∧fH f es l)
set_option tactic.hygienic true in
theorem Hp.view(H:Hp h₀ f as h σ){V:V}(e:view σ V=some x)(m:jG f as v V):eB f h v x:=by
 cases V with
 |d y=>exact one e (.inl m)
 |loc k=>
  refine ay m λp o i=>?_;clear m;subst i;refine az e λc q e=>?_;cases c with
  |lst l=>exact one e (bR (H.cells _ _ _ o q) λa b j=>cJ j λvs n g r=>.inr (.inl (jC _ vs n _ ⟨rfl,rfl,a▸g,r⟩)))
  |dct l=>exact one e (bR (H.cells _ _ _ o q) λa b j=>fP j λvs n g s r=>.inr (.inr (jC _ vs n _ ⟨rfl,rfl,a▸g,s,r⟩)))
  |eE x=>exact one e (.inl (H.cells _ _ _ o q))
  |inst c fs=>exact no e
theorem eB.lst(S:eB f h v (.lst l))(F:f.on h):∃a vs n,v= .ref a∧h.get? a=some (dR vs n)∧bQ f vs l:=by
 rcases S with a|⟨a,vs,n,l,rfl,e,g,r⟩|⟨a,vs,n,l,rfl,e,r⟩
 ·cases a with |lst e r=>exact(h9 _ _ _ ⟨rfl,F _ _ e,r⟩)
 ·cases e;exact(h9 _ _ _ ⟨rfl,g,r⟩)
 ·cases e
theorem eB.dct(S:eB f h v (.dct l))(F:f.on h):∃a es n,v= .ref a∧h.get? a=some (dm es n)∧(l.map (λx=>x.1)).Nodup∧fH f es l:=by
 rcases S with a|⟨a,vs,n,l,rfl,e,g,r⟩|⟨a,vs,n,l,rfl,e,r⟩
 ·cases a with |dct e n r=>exact(h9 _ _ _ ⟨rfl,F _ _ e,n,r⟩)
 ·cases e
 ·cases e;exact(h9 _ _ _ ⟨rfl,r⟩)
theorem eB.tup{v:Value}(S:eB f h v (.tup l))(F:f.on h):∃a vs n,v= .ref a∧f a=some (jB vs n)∧h.get? a=some (jB vs n)∧bQ f vs l:=by
 rcases S with a|⟨a,vs,n,l,rfl,e,g,r⟩|⟨a,vs,n,l,rfl,e,r⟩
 ·cases a with |tup e r=>exact(h9 _ _ _ ⟨rfl,e,F _ _ e,r⟩)
 ·cases e
 ·cases e
theorem eB.int(S:eB f h v (.int i)):∃t,v= .int i t:=by
 rcases S with a|⟨_,_,_,_,rfl,e,_⟩|⟨_,_,_,_,rfl,e,_⟩
 ·cases a;exact⟨_,rfl⟩
 ·cases e
 ·cases e
theorem eB.str(S:eB f h v (.str i)):∃t,v= .str i t:=by
 rcases S with a|⟨_,_,_,_,rfl,e,_⟩|⟨_,_,_,_,rfl,e,_⟩
 ·cases a;exact⟨_,rfl⟩
 ·cases e
 ·cases e
theorem eB.bool(S:eB f h v (.bool i)):v= .bool i:=by
 rcases S with a|⟨_,_,_,_,rfl,e,_⟩|⟨_,_,_,_,rfl,e,_⟩
 ·cases a;rfl
 ·cases e
 ·cases e
theorem eB.none(S:eB f h v .none):v= .none:=by
 rcases S with a|⟨_,_,_,_,rfl,e,_⟩|⟨_,_,_,_,rfl,e,_⟩
 ·cases a;rfl
 ·cases e
 ·cases e
theorem bP.jy(S:bP f v (.int i)):∃t,v= .int i t:=by cases S;exact⟨_,rfl⟩
theorem bP.DP(S:bP f v (.str i)):∃t,v= .str i t:=by cases S;exact⟨_,rfl⟩
theorem bP.q6(S:bP f v (.bool i)):v= .bool i:=by cases S;rfl
theorem Hp.write(H:Hp h₀ f as h σ){k:Nat}{p:Addr×Addr}(e:as[k]? =some p)(z:σ[k]? =some c)(C:c.live=true)(v:∀b,b≠p.2→h'.get? b=h.get? b)(M:fN f as h' p c')(g:c'.live=true):
  Hp h₀ f as h' (σ.set k c'):=by
 have E:=(H.cellAt e z C).2;have B:=(List.getElem?_eq_some_iff.mp z).1;have s:∀i x,(σ.set k c')[i]? =some x→(i=k∧x=c')∨(i≠k∧σ[i]? =some x):=λi x q=>by
  by_cases n:i=k
  ·subst n;rw[List.getElem?_set_self B]at q;exact one q (.inl ⟨rfl,rfl⟩)
  ·rw[List.getElem?_set_ne (Ne.symm n)]at q;exact .inr ⟨n,q⟩
 have A:=H.gE p (List.mem_of_getElem? e);refine⟨λb o q=>(v b λw=>?_).trans (H.on b o q),H.base,λt J=>?_,H.jA,by refine rl List.length_set ?_;exact H.len,λi q x u l=>?_,λi j q r V U D L K I G S R=>?_,H.gE,λq T=>?_⟩
 ·rw[w,E]at q;exact no q
 ·exact ay (H.tabs t J) λps e r=>⟨ps,(v t.1 λw=>A (w▸List.mem_map.mpr ⟨t,J,rfl⟩)).trans e,r⟩
 ·clear E B A;rcases s i x l with⟨rfl,rfl⟩|⟨n,l⟩
  ·rw[e]at u;exact one u M
  ·exact(H.cells i q x u l).step f.le_refl (λg=>v _ (H.apart i k q p x c n u e l z g C)) λg=>(H.cellAt u l g).2
 ·have m:∀(i:Nat) (q:Addr×Addr) (x:Cell),as[i]? =some q→(σ.set k c')[i]? =some x→x.live=true→∃y:Cell,σ[i]? =some y∧y.live=true:=λi q x N F Q=>by
   clear e E B A N;rcases s i x F with⟨rfl,rfl⟩|⟨_,F⟩
   ·exact⟨c,z,C⟩
   ·exact⟨x,F,Q⟩
  exact ay (m i q V L I S) λP a1 Y=>ay (m j r U K G R) λO a2 W=>H.apart i j q r P O D L K a1 a2 Y W
 ·by_cases w:q.2=p.2
  ·exact rl w ((M.at g).1)
  ·exact rl (v _ w) (H.has q T)
theorem Hp.LQ(H:Hp h₀ f as h σ)(p:Addr×Addr)(C:fN f (as++[p]) h p c)(T:p.2∉cT)(hs:∃o,h.get? p.2=some o)(Q:c.live=true→∀(k:Nat) q d,as[k]? =some q→σ[k]? =some d→d.live=true→q.2≠p.2):Hp h₀ f (as++[p]) h (σ++[c]):=by
 have s:∀i q x,(as++[p])[i]? =some q→(σ++[c])[i]? =some x→(i=as.length∧q=p∧x=c)∨(i<as.length∧as[i]? =some q∧σ[i]? =some x):=λi q x e m=>by
  by_cases u:i<as.length
  ·rw[List.getElem?_append_left u]at e;rw[List.getElem?_append_left (H.len▸u)]at m;exact .inr ⟨u,e,m⟩
  ·have v:=(List.getElem?_eq_some_iff.mp e).1;rw[List.length_append]at v;replace v:=List.length_singleton▸v;have F:i=as.length:=by exact Jo u v
   clear v;subst F;rw[List.getElem?_append_right (Nat.le_refl _),Nat.sub_self]at e;rw[H.len,List.getElem?_append_right (Nat.le_refl _),Nat.sub_self]at m;refine one e (one m ?_);exact .inl ⟨rfl,rfl,rfl⟩
 refine⟨H.on,H.base,H.tabs,H.jA,by simp[H.len],λi q x e m=>?_,λi j q r K y w I O G N D B=>?_,λq E=>?_,λq E=>?_⟩
 ·refine Or.elim (s i q x e m) (λz=>?_) λz=>?_
  ·obtain⟨rfl,rfl,rfl⟩:=z;exact C
  ·obtain⟨_,e,m⟩:=z;have:=H.cells i q x e m;clear C left e m;clear e m;cases x with
   |lst l=>exact this
   |dct l=>exact this
   |inst c fs=>exact bR this λa b R=>cJ R λV n g r=>⟨a,b,V,n,g,r.more⟩
   |eE d=>exact this
 ·clear C;rcases s i q K I G with⟨S,rfl,rfl⟩|⟨u,P,M⟩
  ·clear I G;rcases s j r y O N with⟨L,rfl,rfl⟩|⟨U,J,A⟩
   ·exact absurd (S.trans L.symm) w
   ·exact(Q D j r y J A B).symm
  ·clear I G u;rcases s j r y O N with⟨L,rfl,rfl⟩|⟨U,J,A⟩
   ·exact Q B i q K P M D
   ·exact H.apart i j q r K y w P J M A D B
 ·rcases List.mem_append.mp E with t|t
  ·exact H.gE q t
  ·exact rl (List.mem_singleton.mp t) T
 ·rcases List.mem_append.mp E with t|t
  ·exact H.has q t
  ·exact rl (List.mem_singleton.mp t) hs
end
theorem s7:∀x y:Nat,x<71→y<71→nm x=nm y→x=y:=by
 have a:((List.range 71).all λx=>(List.range 71).all λy=>!((nm x).cps.toList==(nm y).cps.toList)||x==y)=true:=by decide+kernel
 intro x y d c e;have g:=List.all_eq_true.mp a x (List.mem_range.mpr d);have b:=List.all_eq_true.mp g y (List.mem_range.mpr c);rw[e,beq_self_eq_true,Bool.not_true,Bool.false_or]at b;exact beq_iff_eq.mp b
theorem mH:∀x,x<71→(nm x==("__debug__":Str))=false:=by
 have a:((List.range 71).all λx=>(nm x==("__debug__":Str))==false)=true:=by decide+kernel
 exactλx b=>beq_iff_eq.mp (List.all_eq_true.mp a x (List.mem_range.mpr b))
theorem jj:∀x,x<71→(nm x==("__classdict__":Str))=false:=by
 have a:((List.range 71).all λx=>(nm x==("__classdict__":Str))==false)=true:=by decide+kernel
 exactλx b=>beq_iff_eq.mp (List.all_eq_true.mp a x (List.mem_range.mpr b))
section
variable{w:World}{h₀ h h':Heap}{f f':PM}{as:List (Addr×Addr)}{σ σ':ak}{env:Env}{ρ ρ':aB}{op op':Bool}{X Z:List Addr}{n:Nat}
 {M:Model}{A:Around}{E:Value→Shared→Prop}{s:Shared}
theorem lF(a:jq env)(B:Bound s.heap env x v)(b:(x==("__classdict__":Str))=false)(q:Q v s):wpAny M A (loadName env x) Q E s:=by
 rcases B with⟨k,m,N,e⟩|⟨k|k,c,e,I⟩
 ·exact wpAny_loadName_local a.kind k N e q
 ·exact wpAny_loadName_cell a.kind k e I q
 ·exact wpAny_loadName_free a.kind k e I q b
theorem uN{x:Nat}{V:V}(a:Vr op f as env s.heap ρ)(e:ρ.lookup x=some V)(q:∀v,jG f as v V→Q v s):wpAny M A (loadName env (nm x)) Q E s:=
 let⟨lt,v,B,o⟩:=a.vars x V e
 lF a.ok B (jj x lt) (q v o)
theorem eI{V:V}(a:Vr op f as env s.heap ρ)(e:ρ.lookup x=some V)(q:∀v,jG f as v V→Q v s):wpAny M A (eval (.Name (nm x) pos) env) Q E s:=
 wpAny_Name (uN a e q) (mH x (a.vars x V e).1)
theorem aa:aY w h₀ n env op op (.Name (nm x) pos) (aH C (.var x)):=λρ σ v σ' e=>az e λc b e=>two e (λA f as s Q E R H V q=>eI V b λa o=>q f s.heap s.toks a (.refl H V) o)
theorem vm:aY w h₀ n env op op (.Constant .none k pos) (aH C .none):=λρ σ v σ' e=>two e (λA f as s Q E R H V q=>wpAny_Constant_none (q f s.heap s.toks _ (.refl H V) .none))
theorem cP:aY w h₀ n env op op (.Constant (.bool b) k pos) (aH C (.bool b)):=λρ σ v σ' e=>two e (λA f as s Q E R H V q=>wpAny_Constant_bool (q f s.heap s.toks _ (.refl H V) (.bool b)))
theorem aj:aY w h₀ n env op op (.Constant (.int i) k pos) (aH C (.int i)):=λρ σ v σ' e=>two e (λA f as s Q E R H V q=>wpAny_Constant_int (q f s.heap (s.toks+1) _ (.refl H V) (.int i _)))
theorem kO:aY w h₀ n env op op (.Constant (.str (Str.ofString x)) k pos) (aH C (.str x)):=λρ σ v σ' e=>two e (λA f as s Q E R H V q=>wpAny_Constant_str (q f s.heap (s.toks+1) _ (.refl H V) (.str _ _)))
noncomputable def Upd(ρ:aB)(x:Nat)(V:V)(ρ':aB):Prop:=∀y W,ρ'.lookup y=some W→(y=x∧W=V)∨(y≠x∧ρ.lookup y=some W)
theorem vy{V:V}:Upd ρ x V ((x,V)::ρ):=λy W e=>by
 rw[List.lookup_cons]at e;by_cases q:y=x
 ·subst q;simp at e;exact .inl ⟨rfl,e.symm⟩
 ·rw[show(y==x)=false from beq_eq_false_iff_ne.mpr q]at e;exact .inr ⟨q,e⟩
theorem gp{V:V}:∀{ρ:aB},Upd ρ x V (e9 ρ x V)
 |[]=>vy
 |(k,u)::r=>λy W e=>by
  unfold e9 at e;by_cases g:k=x
  ·subst g;simp only[decide_true]at e;refine Or.elim (vy y W e) (λa=>?_) λc=>?_
   ·exact .inl a
   ·refine a9 c λa b=>.inr ⟨a,?_⟩;rw[List.lookup_cons,show(y==k)=false from beq_eq_false_iff_ne.mpr a];exact b
  ·simp only[decide_eq_false g]at e;rw[List.lookup_cons]at e;by_cases d:y=k
   ·subst d;simp at e;subst e;exact .inr ⟨g,by simp⟩
   ·rw[show(y==k)=false from beq_eq_false_iff_ne.mpr d]at e;refine Or.elim (gp y W e) (λa=>?_) λc=>?_
    ·exact .inl a
    ·refine a9 c λa b=>.inr ⟨a,?_⟩;rw[List.lookup_cons,show(y==k)=false from beq_eq_false_iff_ne.mpr d];exact b
theorem gH{α o:Type}{g:α→o}:∀{l:List α},(l.map g).Nodup→∀{a b:α},a∈l→b∈l→g a=g b→a=b
 |x::l,i,a,b,m,k,e=>by
  rw[List.map_cons,List.nodup_cons]at i;refine Or.elim (List.mem_cons.mp m) (λj=>?_) λd=>?_
  ·subst j;clear m;rcases List.mem_cons.mp k with rfl|c
   ·rfl
   ·exact absurd (List.mem_map.mpr ⟨b,c,e.symm⟩) i.1
  ·refine Or.elim (List.mem_cons.mp k) (λj=>?_) λc=>?_
   ·clear m k;subst j;exact absurd (List.mem_map.mpr ⟨a,d,e⟩) i.1
   ·exact gH i.2 d c e
noncomputable def aG(env:Env)(op:Bool)(x:Nat):Prop:=x<71∧(env.kindOf (nm x)=some .local∨(env.kindOf (nm x)=some .cell∧op=true∧∃c,env.cells.lookup (nm x)=some c))
theorem rP{x:Nat}{V:V}(H:Hp h₀ f as s.heap σ)(d:Vr op f as env s.heap ρ)(hs:aG env op x)(Y:jG f as v V)(u:Upd ρ x V ρ')
  (q:∀h' tk,(∀b,b∉Env.adr env→h'.get? b=s.heap.get? b)→Hp h₀ f as h' σ→Vr op f as env h' ρ'→Q () {s with heap:=h',toks:=tk}):wpAny M A (storeName env (nm x) v) Q E s:=by
 obtain⟨L,t⟩:=hs;have ca:∀a∈Env.adr env,∀p∈as,p.2≠a:=λa ha p G e=>d.apart p G (e▸ha);rcases t with t|⟨t,ho,c,O⟩
 ·obtain⟨m,N⟩:=d.ns;refine wpAny_storeName_local t N (λh' N' S=>?_) (by refine rl d.ok.kind ?_;rfl);have l:env.locals∈Env.adr env:=List.mem_cons_self ..;have C:∀b,b≠env.locals→∀o,s.heap.get? b=some o→h'.get? b=some o:=λb D o e=>(S.2 b D).trans e;have R:=H.but S.2 d.g7 (ca _ l) (d.tab _ l);refine q h' _ (λb D=>S.2 b λw=>D (w▸l)) R ⟨d.ok,λy W e=>?_,⟨_,N'⟩,λp G=>?_,d.apart,d.tab,d.g7,d.jJ,d.inj,d.ig⟩
  ·refine Or.elim (u y W e) (λi=>?_) λi=>?_
   ·obtain⟨rfl,rfl⟩:=i;exact⟨L,v,.inl ⟨t,_,N',if_pos rfl⟩,Y⟩
   ·obtain⟨U,e⟩:=i;refine a9 (d.vars y W e) λJ j=>ay j λT B o=>?_;refine⟨J,T,?_,o⟩;refine Or.elim B (λi=>?_) λi=>?_
    ·refine a9 i λk j=>ay j λm' N2 r=>?_;have em:m'=m:=by
      refine iL N λo1 es1 SN a1 b1 i d1=>iL N2 λo2 P8 SO a2 K i d2=>?_;rw[a1]at a2;(revert K;refine one a2 ?_;intro K)
      replace K:=b1▸K;clear l a1 b1 a2 i;cases K
      funext z;rw[←d1,←d2]
     subst em;refine .inl ⟨k,_,N',?_⟩;exact rl (if_neg λw=>U (s7 _ _ J L w)) r
    ·refine a9 i λk j=>ay j λc r I=>.inr ⟨k,c,r,Heap.IsCell.at I (C c ?_)⟩;exact d.ig (nm y,c) (PySem.mem_of_lookup r)
  ·exact aT (d.cell p G) λw I=>⟨w,Heap.IsCell.at I (C _ (d.ig p G))⟩
 ·have F:=PySem.mem_of_lookup O;have P:c∈Env.adr env:=List.mem_cons_of_mem _ (List.mem_map.mpr ⟨_,F,rfl⟩);refine aT (d.cell _ F) λv0 I0=>wpAny_storeName_cell d.ok.kind t O I0 λh' I' S=>?_;have C:∀b,b≠c→∀o,s.heap.get? b=some o→h'.get? b=some o:=λb D o e=>(S.2 b D).trans e;have R:=H.but S.2 (d.jJ ho _ F) (ca _ P) (d.tab _ P);refine q h' s.toks (λb D=>S.2 b λw=>D (w▸P)) R ⟨d.ok,λy W e=>?_,let⟨m,N⟩:=d.ns;⟨m,Heap.Ns.at' N (C _ (d.ig _ F).symm)⟩,λp G=>?_,d.apart,d.tab,d.g7,d.jJ,d.inj,d.ig⟩
  ·clear H q ca ho P I0 S R;rcases u y W e with⟨rfl,rfl⟩|⟨U,e⟩
   ·exact⟨L,v,.inr ⟨.inl t,c,O,I'⟩,Y⟩
   ·refine a9 (d.vars y W e) λJ j=>ay j λT B o=>⟨J,T,?_,o⟩;refine Or.elim B (λi=>?_) λi=>?_
    ·refine a9 i λk j=>?_;obtain⟨m',N2,r⟩:=j;exact .inl ⟨k,_,Heap.Ns.at' N2 (C _ (d.ig _ F).symm),r⟩
    ·refine a9 i λk j=>?_;clear Y u t O e B o i;obtain⟨c2,r,I⟩:=j;refine .inr ⟨k,c2,r,Heap.IsCell.at I (C c2 λw=>?_)⟩;subst w;have:=gH d.inj (PySem.mem_of_lookup r) F rfl;exact U (s7 _ _ J L (congrArg Prod.fst this))
  ·by_cases w:p.2=c
   ·exact⟨_,w▸I'⟩
   ·exact aT (d.cell p G) λw' I=>⟨w',Heap.IsCell.at I (C _ w)⟩
end
section
variable{h:Heap}{f:PM}
theorem nj(P:∀{d:D} {v:Value},bP f v d→iu n d=true→∃as,Reads h v d.py as):∀{ds:List D} {vs:List Value},bQ f vs ds→b7 n ds=true→∃as,ReadsAll h vs (D.tu ds) as:=by
 intro ds;induction ds with
 |nil=>intro vs r _;cases r;exact⟨_,ReadsAll.nil⟩
 |cons d l c=>
  intro vs r b;cases r with
  |cons a r=>simp only[b7,Bool.and_eq_true]at b;obtain⟨as,q⟩:=P a b.1;obtain⟨e,p⟩:=c r b.2;exact⟨_,ReadsAll.cons q p⟩
theorem bP.reads(F:f.on h)(n:Nat):∀{d:D} {v:Value},bP f v d→iu n d=true→∃as,Reads h v d.py as:=by
 induction n with
 |zero=>
  intro d v x k;cases x with
  |none=>exact⟨_,Reads.none⟩
  |bool b=>exact⟨_,Reads.bool b⟩
  |int i t=>exact⟨_,Reads.int i t⟩
  |str x t=>exact⟨_,Reads.str x t⟩
  |_=>exact absurd k (by trivial)
 |succ n a=>
  intro d v x k;cases x with
  |none=>exact⟨_,Reads.none⟩
  |bool b=>exact⟨_,Reads.bool b⟩
  |int i t=>exact⟨_,Reads.int i t⟩
  |str x t=>exact⟨_,Reads.str x t⟩
  |tup e r=>obtain⟨as,q⟩:=nj a r k;exact⟨as,reads_tuple_at (F _ _ e) rfl rfl (by simpa using q)⟩
  |lst e r=>obtain⟨as,q⟩:=nj a r k;exact⟨_,reads_list_at (F _ _ e) rfl rfl (by simpa using q)⟩
  |_=>exact absurd k (by trivial)
theorem bQ.reads(F:f.on h)(n:Nat)(r:bQ f vs ds)(k:b7 n ds=true):∃as,ReadsAll h vs (D.tu ds) as:=nj (bP.reads F n) r k
theorem pI(P:∀d,iu n d=true→d.py.canLay0=true∧d.py.depth≤n){ds:List D}:b7 n ds=true→PyData.canLayAll0 (D.tu ds)=true∧PyData.depthAll (D.tu ds)≤n:=by
 induction ds with
 |nil=>intro i;exact⟨rfl,Nat.zero_le _⟩
 |cons d l c=>refineλh=>a9 (Bool.and_eq_true_iff.mp h) λg e=>?_;have a:=P d g;have b:=c e;exact⟨Bool.and_eq_true_iff.mpr ⟨a.1,b.1⟩,Nat.max_le.mpr ⟨a.2,b.2⟩⟩
theorem pH(n:Nat):∀d:D,iu n d=true→d.py.canLay0=true∧d.py.depth≤n:=by
 induction n with
 |zero=>
  intro d h;cases d with
  |none=>exact⟨rfl,Nat.le_refl _⟩
  |bool b=>exact⟨rfl,Nat.le_refl _⟩
  |int b=>exact⟨rfl,Nat.le_refl _⟩
  |str b=>exact⟨h,Nat.le_refl _⟩
  |_=>exact ft h
 |succ n a=>
  intro d h;cases d with
  |none=>exact⟨rfl,Nat.zero_le _⟩
  |bool b=>exact⟨rfl,Nat.zero_le _⟩
  |int b=>exact⟨rfl,Nat.zero_le _⟩
  |str b=>exact⟨h,Nat.zero_le _⟩
  |tup l=>have q:=pI a h;exact⟨q.1,Nat.succ_le_succ q.2⟩
  |lst l=>have q:=pI a h;exact⟨q.1,Nat.succ_le_succ q.2⟩
  |_=>exact ft h
theorem zE(n:Nat)(ds:List D)(h:b7 n ds=true):PyData.canLayAll0 (D.tu ds)=true∧PyData.depthAll (D.tu ds)≤n:=pI (pH n) h
theorem ff(h:iu 8 d=true):SeqAt.shaped d.py=true:=by have l:=pH 8 d h;unfold SeqAt.shaped;refine rl l.1 ?_;rw[Bool.true_and];exact decide_eq_true (Nat.le_trans l.2 (by decide))
theorem eB.reads(F:f.on h)(S:eB f h v d)(k:iu 8 d=true):∃as,Reads h v d.py as:=by
 rcases S with a|⟨a,vs,n,l,rfl,rfl,e,r⟩|⟨a,vs,n,l,rfl,rfl,e,r⟩
 ·exact a.reads F 8 k
 ·exact aT (r.reads F 7 k) λas q=>⟨_,reads_list_at e rfl rfl (by simpa using q)⟩
 ·exact ft k
inductive lQ(f:PM):List (Int×Value)→List (Int×D)→Prop
 |nil:lQ f [] []
 |cons {i:Int} {v:Value} {d:D} {es:List (Int×Value)} {l:List (Int×D)}:bP f v d→lQ f es l→lQ f ((i,v)::es) ((i,d)::l)
theorem lQ.keys(h:lQ f kvs l):kvs.map (λx=>x.1)=l.map (λx=>x.1):=by
 induction h with
 |nil=>rfl
 |cons _ _ a=>exact congrArg (λx=>_::x) a
theorem lQ.length(h:lQ f kvs l):kvs.length=l.length:=by
 induction h with
 |nil=>rfl
 |cons _ _ a=>exact congrArg (λx=>x+1) a
theorem lQ.at(K:lQ f kvs l)(k:Int):(valueAt kvs k=none∧l.lookup k=none)∨∃v d,valueAt kvs k=some v∧l.lookup k=some d∧bP f v d:=by
 induction K with
 |nil=>exact .inl ⟨rfl,rfl⟩
 |@cons i v d c l a r b=>
  unfold valueAt;dsimp only[List.find?_cons,List.lookup_cons];by_cases h:i=k
  ·subst h;exact .inr (fu v d ⟨by simp,by simp,a⟩)
  ·have h':=beq_eq_false_iff_ne.mpr λe=>h e.symm;refine rl (decide_eq_false h) (rl h' ?_);exact b
variable{w:World}
theorem fH.kvs:∀{l:List (Int×D)},fH f g l→∃kvs,Pairs (intKind P0 w) g kvs∧lQ f kvs l∧∀e∈g,∃k,(intKind P0 w).is k e.key=true∧e.hash=(intKind P0 w).hash k:=by
 induction g with
 |nil=>intro l o;cases o;exact⟨[],.nil,.nil,λn h=>nomatch h⟩
 |cons x g m=>
  intro l o;cases o with
  |@cons i t v d _ l a r=>exact bG (m r) λkvs p q z=>⟨(i,v)::kvs,.cons (intKind_is P0 w i t) rfl p,.cons a q,List.forall_mem_cons.mpr ⟨⟨i,intKind_is P0 w i t,rfl⟩,z⟩⟩
theorem dB(e:h.get? a=some (dm b n))(c:(l.map (λx=>x.1)).Nodup)(r:fH f b l):∃kvs,h.DictOf (intKind P0 w) a kvs∧lQ f kvs l:=bG (r.kvs) λkvs p q z=>⟨kvs,(h9 _ b.toArray n ⟨e,⟨rfl,rfl,rfl⟩,rfl,λe d=>z e (by simpa using d),by simpa using p,q.keys▸c⟩),q⟩
theorem F6(P:Pairs (intKind P0 w) g kvs):∀{l:List (Int×D)},(∀e∈g,∃k,(intKind P0 w).is k e.key=true∧e.hash=(intKind P0 w).hash k)→lQ f kvs l→fH f g l:=by
 induction P with
 |nil=>intro l _ r;cases r;exact .nil
 |@cons e s g kvs a b p o=>
  intro l z r;cases r with
  |cons x r=>refine ay (z e (.head _)) λk c i=>?_;have j:=(intKind P0 w).inj _ _ _ c a;obtain⟨hs,n,m⟩:=e;dsimp only at b a c i j;clear p a;subst b j;refine aT (Value.isInt_shape c) λt d=>?_;clear c;subst d;subst i;exact .cons x (o (λe q=>z e (.tail _ q)) r)
theorem ni(d:h.DictOf (intKind P0 w) a kvs)(r:lQ f kvs l):∃es n,h.get? a=some (dm es n)∧(l.map (λx=>x.1)).Nodup∧fH f es l:=by refine Ou d λo es t e b c z p q=>?_;obtain⟨j,i,g⟩:=b;obtain⟨v,u,m,k⟩:=o;dsimp only at j i g c;subst j i g c;exact(fu es.toList t ⟨by simpa using e,r.keys▸q,F6 p (λe s=>z e (by simpa using s)) r⟩)
end
noncomputable def PY:MJ→Operator
 | .add=>.Add| .sub=>.Sub| .mul=>.Mult| .fdiv=>.FloorDiv| .mod=>.Mod| .pow=>.Pow
noncomputable def FF:HH→CmpOp
 | .eq=>.Eq| .ne=>.NotEq| .lt=>.Lt| .le=>.LtE| .gt=>.Gt| .ge=>.GtE| .isin=>.In| .iW=>.NotIn| .is=>.Is
noncomputable def i7(h₀:Heap):Prop:=∃(o:Obj) (es:Array DictEntry) (n:Nat) (e:DictEntry) (x:Str) (t:Tok),h₀.get? sysModules=some o∧o.data= .dict es n∧es[0]? =some e∧e.key= .str x t
section
variable{w:World}{h₀:Heap}{f:PM}{as:List (Addr×Addr)}{σ:ak}{A:Around}{E:Value→Shared→Prop}{s:Shared}{Q:Value→Shared→Prop}{n:Nat}
theorem gm(G:i7 h₀)(H:Hp h₀ f as s.heap σ)(e:s.heap.get? a=some (dm es k))(r:fH f es l):(a==sysModules)=false:=by
 refine rU G λo h i j x c=>?_;obtain⟨t,g,b,z,d⟩:=c;by_cases q:a=sysModules
 ·subst q;have:=H.on _ _ (H.base _ _ g);replace this:=e▸this
  (revert b;refine one this ?_;intro b)
  clear G H g e this;cases b;cases r with
  |nil=>exact no z
  |cons a r=>simp at z;subst z;cases d
 ·exact beq_eq_false_iff_ne.mpr q
noncomputable def Cont(h₀:Heap)(f:PM)(as:List (Addr×Addr))(s:Shared)(σ:ak)(R:PM→Value→Prop)(Q:Value→Shared→Prop):Prop:=
 ∀f' h' tk val,Step f s.heap (as.map (λx=>x.2)) [] f' h'→Hp h₀ f' as h' σ→R f' val→Q val {s with heap:=h',toks:=tk}
theorem Cont.same(c:Cont h₀ f as s σ R Q)(H:Hp h₀ f as s.heap σ)(r:R f v):Q v {s with toks:=tk}:=c f s.heap tk v (.refl ..) H r
theorem Cont.Dv(c:Cont h₀ f as s σ R Q)(H:Hp h₀ f as s.heap σ)(r:R f v):Q v s:=c f s.heap s.toks v (.refl ..) H r
theorem Cont.push(c:Cont h₀ f as s σ R Q)(H:Hp h₀ f as s.heap σ)(r:∀f',f.le f'→f' s.heap.objs.size=some o→R f' (.ref s.heap.objs.size))(a:o.isFreed=false:=by rfl):
  Q (.ref s.heap.objs.size) {s with heap:=s.heap.push o,toks:=tk}:=by
 have K:=H.new (X:=as.map (λx=>x.2)) (Z:=[]) (λb d e=>Heap.get?_push_of_some _ e) (aq (Nat.le_refl _)) (Heap.get?_push_size _ a);exact c _ _ tk _ K.2 K.1 (r _ K.2.le (PM.bA ..))
set_option tactic.hygienic true in
theorem yE(h:a.natAbs<9223372036854775808):Builtin.Int.intBits a≤64:=by
 unfold Builtin.Int.intBits;split
 ·exact Lq
 ·rename_i c;have b:a.natAbs≠0:=by intro e;exact c (by simp[Int.natAbs_eq_zero.mp e])
  have:=(Nat.log2_lt b).mpr (show a.natAbs<2^ 63 from h);exact ID this
set_option tactic.hygienic true in
theorem noPylong(h:b.natAbs<9223372036854775808):Builtin.divisionGoesByPylong a b=false:=by
 unfold Builtin.divisionGoesByPylong;have c:((if b==0 then 0 else b.natAbs.log2/30+1)>300)=False:=by
  split
  ·trivial
  ·rename_i g;have d:b.natAbs≠0:=by intro e;exact g (by simp[Int.natAbs_eq_zero.mp e])
   have:=(Nat.log2_lt d).mpr (show b.natAbs<2^ 63 from h);rw[gt_iff_lt,eq_iff_iff,iff_false];exact Ik this
 simp only[c];rfl
theorem i0{f:Int→Int→Option D}{P:Prop}(e:xy x y f=some z)(k:∀i j,x= .int i→y= .int j→f i j=some z→P):P:=int_inv e λi b e=>int_inv e λj a e=>k i j b a e
theorem jL{α:Type}{x y:Option α}{r:α}{P:Prop}(e:cond b x y=some r)(c:b=true→x=some r→P)(a:b=false→y=some r→P):P:=by
 cases b with
 |true=>exact c rfl e
 |false=>exact a rfl e
theorem BE{o:MJ}(e:binOp o x y=some z)(H:Hp h₀ f as s.heap σ)(D:eB f s.heap va x)(C:eB f s.heap vb y)(c:Cont h₀ f as s σ (λM v=>bP M v z) Q):
  wpAny (model P0 w) A (binaryOp (PY o) va vb) Q E s:=by
 cases o
 ·cases x with
  |int a=>refine int_inv e λb G h=>?_;subst G;obtain⟨t,rfl⟩:=D.int;obtain⟨u,rfl⟩:=C.int;exact add_int (c.same H (one h (.int _ _)))
  |str a=>refine str_inv e λb G I=>aS I λB h=>?_;clear e I;subst G;obtain⟨t,rfl⟩:=D.str;obtain⟨u,rfl⟩:=C.str;exact SB.add (λS k=>c.same H (one h (.str _ _))) (Nat.le_trans (Nat.le_of_lt (Nat.blt_eq.mp B)) (sizeLine_eq▸by decide))
  |lst l=>
   refine jM e λm G I=>aS I λB h=>?_;clear e I;subst G;refine fG (D.lst H.on) λa vs k d g r=>?_;subst d;refine fG (C.lst H.on) λb J O d L K=>?_;subst d;have F:=Nat.blt_eq.mp B;refine concat_meets ⟨_,g,rfl⟩ ⟨_,L,rfl⟩ noFill_list_add seq_list_add PySem.F.slot_list_add PySem.F.entry_list_add (PySem.F.args_list_add_2 _ _) (list_addW a b vs.toArray J.toArray k O none none #[] #[] (by simp only[sizeLine_eq];simp only[lim]at F;simp[r.length,K.length];exact E1 F)) ⟨g,L,?_⟩;have ee:vs.toArray++J.toArray=(vs++J).toArray:=by simp
   exact rl ee (c.push H λM l q=>one h (.lst q ((r.mono l).append (K.mono l))))
  |_=>exact no e
 ·refine i0 e λi j p d h=>?_;subst p;subst d;obtain⟨t,rfl⟩:=D.int;obtain⟨u,rfl⟩:=C.int;exact sub_int (c.same H (one h (.int _ _)))
 ·refine i0 e λi j p d h=>aS h λB h=>?_;clear e;subst p;subst d;obtain⟨t,rfl⟩:=D.int;obtain⟨u,rfl⟩:=C.int;refine mul_int (c.same H (one h (.int _ _))) ?_;refine Or.elim (Bool.or_eq_true_iff.mp B) (λq=>?_) λq=>?_
  ·exact IntMulOk.of_left (yE (of_decide_eq_true q))
  ·exact IntMulOk.of_right (yE (of_decide_eq_true q))
 ·refine i0 e λi j p d h=>jL h (λN e=>no e) λB h=>?_;clear e;subst p;subst d;obtain⟨t,rfl⟩:=D.int;obtain⟨u,rfl⟩:=C.int;rw[Bool.or_eq_false_iff]at B;exact floordiv_int (of_decide_eq_false B.1) (c.same H (one h (.int _ _))) (.inl (noPylong (of_decide_eq_true (by simpa using B.2))))
 ·refine i0 e λi j p d h=>jL h (λN e=>no e) λB h=>?_;clear e;subst p;subst d;obtain⟨t,rfl⟩:=D.int;obtain⟨u,rfl⟩:=C.int;exact mod_int' (of_decide_eq_false B) (c.same H (one h (.int _ _)))
 ·refine i0 e λi j p d h=>aS h λB h=>?_;clear e;subst p;subst d;obtain⟨t,rfl⟩:=D.int;clear D;obtain⟨u,rfl⟩:=C.int;rw[Bool.and_eq_true]at B;have R:=of_decide_eq_true B.1;have P:=of_decide_eq_true B.2;clear B C;subst R P;exact pow_int_small (by decide) (by decide) (by decide) (c.same H (one h (.int _ _)))
theorem B4{P:Prop}(e:Am x y=some r)(b:∀l,x≠.dct l)(k:iu 8 x=true→iu 8 y=true→r=PyData.eqv x.py y.py→P):P:=by
 have a:P7 x y=some r:=by
  cases x with
  |dct l=>exact absurd rfl (b l)
  |_=>exact e
 exact aS a λh e=>k (Bool.and_eq_true_iff.mp h).1 (Bool.and_eq_true_iff.mp h).2 (Option.some.inj e).symm
theorem pG:∀{l:List D},b7 n l=true→∀d∈l,iu n d=true
 |_::_,h,d,a=>by
  simp only[b7,Bool.and_eq_true]at h;refine Or.elim (List.mem_cons.mp a) (λb=>?_) λa=>?_
  ·subst b;exact h.1
  ·exact pG h.2 d a
set_option tactic.hygienic true in
theorem lookup_mem{α c:Type}[BEq α][LawfulBEq α]:∀{l:List (α×c)} {k:α} {v:c},l.lookup k=some v→(k,v)∈l
 |(a,b)::l,k,v,e=>by
  simp only[List.lookup_cons]at e;split at e
  ·rename_i q;refine one e (rl (beq_iff_eq.mp q) ?_);exact .head _
  ·exact .tail _ (lookup_mem e)
theorem keq_hits(F:f.on s.heap)(g:A.in1.units+64<cLine)(j:lQ f kb m)(h:b7 8 (m.map (λx=>x.2))=true):∀{ka:List (Int×Value)} {l:List (Int×D)},lQ f ka l→b7 8 (l.map (λx=>x.2))=true→
  KeqHits A.in1 s kb ka (l.all λp=>match m.lookup p.1 with |some x=>PyData.eqv p.2.py x.py|none=>false)
 |_,_,.nil,_=>.nil
 |_,_,.cons (i:=i) a r,hl=>by
  simp only[List.map_cons,b7,Bool.and_eq_true]at hl;dsimp only[List.all_cons];refine Or.elim (j.at i) (λc=>?_) λc=>?_
  ·refine a9 c λe b=>?_;rw[b,Bool.false_and];exact .miss e
  ·refine fP c λv d e b q=>?_;rw[b];refine aT (a.reads F 8 hl.1) λu o=>?_;have fd:=pG h d (List.mem_map.mpr ⟨_,lookup_mem b,rfl⟩);exact aT (q.reads F 8 fd) λt k=>.hit e (keq_at o k (ff hl.1) (ff fd) g) (keq_hits F g j h r hl.2)
theorem Hs(G:i7 h₀)(R:bO A n)(e:Am x y=some r)(H:Hp h₀ f as s.heap σ)(U:eB f s.heap va x)(T:eB f s.heap vb y)
  (c:Q (.bool (neg !=r)) s):wpAny (model P0 w) A (compareOp (if neg then .NotEq else .Eq) va vb) Q E s:=by
 have o:A.units+64<cLine:=by have:=R.units;exact K5 this
 have j:A.in1.units+64<cLine:=by have:=R.units;exact AX this
 by_cases C:∃l,x= .dct l
 ·refine aT C λl u=>?_;subst u;refine BX e λm Y e=>?_;subst Y;refine iL (U.dct H.on) λa es k h g X J=>?_;subst h;refine iL (T.dct H.on) λb Z k2 h O v i=>?_;subst h;refine ay (dB (w:=w) g X J) λB S W=>ay (dB (w:=w) O v i) λz P V=>?_;have N:=gm G H g J;have M:=gm G H O i;have d:(B.length=z.length→KeqHits A.in1 s z B r)∧(B.length==z.length&&r)=r:=by
   refine rl W.length (rl V.length ?_);refine jL e (λD e=>aS e λp e=>one e ?_) λD e=>one e ?_
   ·have p:=Bool.and_eq_true_iff.mp p;exact⟨λzz=>keq_hits H.on j V p.2 W p.1,by refine rl (of_decide_eq_true D) ?_;rw[beq_self_eq_true,Bool.true_and]⟩
   ·exact⟨λq=>absurd q (of_decide_eq_false D),Bool.and_false _⟩
  cases neg with
  |false=>exact rl (if_neg (by decide)) (keq_eq N M S P (Nat.lt_of_le_of_lt (Nat.le_add_right _ _) o) d.1 (rl d.2 (Bool.false_bne r▸c)))
  |true=>exact rl (if_pos rfl) (keq_ne N M S P (Nat.lt_of_le_of_lt (Nat.le_add_right _ _) o) d.1 (rl d.2 (Bool.true_bne r▸c)))
 ·refine B4 e (λl q=>C ⟨l,q⟩) λI F t=>?_;clear G R e j C;subst t;obtain⟨lU,L⟩:=U.reads H.on I;obtain⟨nG,K⟩:=T.reads H.on F;cases neg with
  |false=>exact rl (if_neg (by decide)) (eq_dataH L K (ff I) (ff F) o (by simpa using c))
  |true=>exact rl (if_pos rfl) (ne_dataH L K (ff I) (ff F) o (by simpa using c))
theorem tw(x:D):∀l:List D,((D.tu l).any λy=>PyData.eqv y x.py)=l.any λy=>PyData.eqv y.py x.py
 |[]=>rfl
 |d::l=>by simp only[D.tu,List.any_cons,tw x l]
theorem Ny(R:bO A n)(e:Hr x l=some r)(H:Hp h₀ f as s.heap σ)(q:eB f s.heap va x)(p:eB f s.heap vb (.lst l))
  (c:Q (.bool (neg !=r)) s):wpAny (model P0 w) A (compareOp (if neg then .NotIn else .In) va vb) Q E s:=by
 ·refine aS e λb e=>?_;rw[Bool.and_eq_true]at b
  (revert c;refine one e ?_;intro c)
  obtain⟨v,j⟩:=q.reads H.on b.1;refine fG (p.lst H.on) λa vs k d g t=>?_;clear q p;subst d;obtain⟨u,i⟩:=t.reads H.on 8 b.2;have h:=pH 8 x b.1;have m:=zE 8 l b.2;have o:A.units+1+min (PyData.depthAll (D.tu l)) x.py.depth<cLine:=by exact Nat.lt_of_le_of_lt (Nat.add_le_add_left (Nat.le_trans (Nat.min_le_right _ _) (Nat.le_trans h.2 (by decide))) _) (AX R.units)
  cases neg with
  |false=>refine rl (if_neg (by decide)) ?_;refine SeqAt.in_list_reads (reads_list_at g rfl rfl (by simpa using i)) j m.1 h.1 o ?_;rw[tw];simpa using c
  |true=>refine rl (if_pos rfl) ?_;refine SeqAt.notIn_list_reads (reads_list_at g rfl rfl (by simpa using i)) j m.1 h.1 o ?_;rw[tw];simpa using c
theorem mR{P:Prop}(e:DU x y k=some z)(q:∀i j,x= .int i→y= .int j→z=k i j→P):P:=int_inv e λi b e=>int_inv e λj a e=>q i j b a (Option.some.inj e).symm
theorem Cv(G:i7 h₀)(R:bO A n)(e:inD x y=some r)(H:Hp h₀ f as s.heap σ)(u:eB f s.heap va x)(q:eB f s.heap vb y)
  (c:∀tk,Q (.bool (neg !=r)) {s with toks:=tk}):wpAny (model P0 w) A (compareOp (if neg then .NotIn else .In) va vb) Q E s:=by
 cases x with
 |tup a=>exact jM e λl j e=>Ny R e H u (j▸q) (c s.toks)
 |int a=>
  refine BX e λl j e=>?_
  (revert c;refine one e ?_;intro c)
  refine aT u.int λt m=>?_;clear R u;subst m;refine iL ((j▸q).dct H.on) λb C F k p o g=>?_;clear q j e;subst k;refine ay (dB (w:=w) p o g) λD z B=>?_;cases neg with
  |false=>refine rl (if_neg (by decide)) ?_;refine wpAny_in_of (intKind_is P0 w _ t) (gm G H p g) z.mapOf ?_;rcases B.at a with⟨i,h⟩|⟨v,d,i,h,_⟩<;>refine rl i ?_<;>rw[h]at c<;>exact c _
  |true=>refine rl (if_pos rfl) ?_;refine wpAny_notIn_of (intKind_is P0 w _ t) (gm G H p g) z.mapOf ?_;rcases B.at a with⟨i,h⟩|⟨v,d,i,h,_⟩<;>refine rl i ?_<;>rw[h]at c<;>exact c _
 |_=>exact no e
theorem iO(G:i7 h₀)(R:bO A n)(e:gx o x y=some r)(H:Hp h₀ f as s.heap σ)(p:eB f s.heap va x)(m:eB f s.heap vb y)
  (c:∀tk,Q (.bool r) {s with toks:=tk}):wpAny (model P0 w) A (compareOp (FF o) va vb) Q E s:=by
 cases o
 ·exact Hs (neg:=false) G R e H p m (by simpa using c s.toks)
 ·refine az e λb z d=>?_;cases d;exact Hs (neg:=true) G R z H p m (by simpa using c s.toks)
 ·refine mR e λi j d g h=>?_;subst d;subst g;subst h;obtain⟨t,rfl⟩:=p.int;obtain⟨u,rfl⟩:=m.int;exact lt_int (c _)
 ·refine mR e λi j d g h=>?_;subst d;subst g;subst h;obtain⟨t,rfl⟩:=p.int;obtain⟨u,rfl⟩:=m.int;exact le_int (c _)
 ·refine mR e λi j d g h=>?_;subst d;subst g;subst h;obtain⟨t,rfl⟩:=p.int;obtain⟨u,rfl⟩:=m.int;exact gt_int (c _)
 ·refine mR e λi j d g h=>?_;subst d;subst g;subst h;obtain⟨t,rfl⟩:=p.int;obtain⟨u,rfl⟩:=m.int;exact ge_int (c _)
 ·exact Cv (neg:=false) G R e H p m (by simpa using c)
 ·refine az e λb z d=>?_;cases d;exact Cv (neg:=true) G R z H p m (by simpa using c)
 ·cases y with
  |none=>cases x with
   |none=>
    (revert c;refine one e ?_;intro c)
    have C:=p.none;have B:=m.none;subst C B;exact wpAny_is_self rfl (c s.toks)
   |tup l=>
    (revert c;refine one e ?_;intro c)
    refine iL (p.tup H.on) λa vs k g v v v=>?_;clear G R H p v;subst g;have B:=m.none;clear m v;subst B;exact wpAny_is_other rfl (by intro q;cases q) (c s.toks)
   |_=>exact no e
  |_=>exact no e
end
section
variable{w:World}{h₀ h h':Heap}{f f':PM}{as:List (Addr×Addr)}{σ σ' σ2:ak}{A:Around}{E:Value→Shared→Prop}{s:Shared}{n:Nat}{env:Env}{op dU jD:Bool}{C:Mine.Sem}{ρ:aB}
theorem oi(e:idx i n=some k):seqIndex? i n=some k∧k<n∧((0≤i∧k=i.toNat)∨(i<0∧-(n:Int)≤i∧k=(i+n).toNat)):=by
 refine jL e (λd e=>aS e λc e=>one e ?_) λd e=>aS e λc e=>one e ?_
 ·have a:=of_decide_eq_true d;have b:=of_decide_eq_true c;refine⟨?_,Bu a b,.inl ⟨a,rfl⟩⟩;unfold seqIndex?;refine rl (if_neg (Int.not_lt.mpr a)) ?_;rw[if_pos (by simp only[Bool.and_eq_true,decide_eq_true_eq];exact Em a b)]
 ·have a:=Int.not_le.mp (of_decide_eq_false d);have b:=of_decide_eq_true c;have g:=Int.lt_of_lt_of_le (Int.add_lt_add_right a (n:Int)) (Int.le_of_eq (Int.zero_add _));refine⟨?_,(Int.toNat_lt b).mpr g,.inr ⟨a,EX b,rfl⟩⟩;unfold seqIndex?;refine rl (if_pos a) ?_;rw[if_pos (by simp only[Bool.and_eq_true,decide_eq_true_eq];exact⟨b,g⟩)]
theorem Hu(h:i.natAbs<4096): -(2^ 63)≤i∧i<2^ 63:=
 ⟨Int.neg_le_of_neg_le (Int.le_trans (Int.natAbs_neg i▸Int.le_natAbs) (Int.le_trans (Int.ofNat_le.mpr (Nat.le_of_lt h)) (by decide))),Int.lt_of_lt_of_le (Int.lt_of_le_of_lt Int.le_natAbs (Int.ofNat_lt.mpr h)) (by decide)⟩
theorem mq(h:fits i.natAbs=true): -(2^ 63)≤i∧i<2^ 63:=by have:=Nat.blt_eq.mp h;simp only[lim]at this;exact Hu this
theorem MB(e:hU x y=some z)(H:Hp h₀ f as s.heap σ)(G:eB f s.heap va x)(F:eB f s.heap vb y)(c:Cont h₀ f as s σ (λf' v=>bP f' v z) Q)
  (hs:∀o i,subscripted slice false o i=operate [o,i] (getItem o i)):wpAny (model P0 w) A (subscriptTail value slice va vb) Q E s:=by
 cases x with
 |lst l=>
  refine int_inv e λi I p=>aS p λD p=>az p λk L p=>?_;have B:=mq D;clear e D;subst I;refine aT F.int λt j=>?_;clear F;subst j;refine fG (G.lst H.on) λa vs m j g r=>?_;clear G;subst j;refine ay (r.get p) λv p M=>?_;have S:s.heap.IsList a vs.toArray:=⟨_,g,rfl,m,rfl⟩;refine bR (oi L) λJ U q=>tail_any S.typeIs slot_list_getitem.lookup ?_ (hs _ _);refine Or.elim q (λq=>a9 q λK O=>?_) λq=>bR q λK O X=>?_
  ·exact wpAny_getItem_list S K B.2 (by refine rr O ?_;simpa using p) (c.Dv H M)
  ·refine wpAny_getItem_list_neg S K (by simpa[r.length]using O) B.1 ?_ (c.Dv H M);have:(vs.toArray.size:Int)=(l.length:Int):=by simp[r.length]
   refine rl this (rr X ?_);simpa using p
 |tup l=>refine int_inv e λi I p=>aS p λD p=>az p λk L p=>?_;have B:=mq D;clear e D;subst I;refine aT F.int λt j=>?_;clear F;subst j;refine iL (G.tup H.on) λa vs m j J g r=>?_;clear G;subst j;exact ay (r.get p) λv p M=>item_tupleT ⟨_,g,rfl,m,rfl⟩ B.1 B.2 (rl r.length ((oi L).1)) p (c.Dv H M) (hs _ _)
 |dct l=>
  refine int_inv e λi I p=>?_;clear e;subst I;refine aT F.int λt j=>?_;clear F;subst j;refine iL (G.dct H.on) λb P8 k2 j Z R N=>?_;clear G;subst j;refine ay (dB (w:=w) Z R N) λkb db Kb=>?_;have W:=db.mapOf;refine Or.elim (Kb.at i) (λJ=>?_) λJ=>?_
  ·refine a9 J λV T=>?_;replace p:=T▸p;exact no p
  ·refine fP J λv d V T Y=>?_;rw[T]at p;exact tail_any W.typeIs slot_dict_getitem.lookup (wpAny_getItem_of (intKind_is P0 w i t) W V (c.same H (one p Y))) (hs _ _)
 |str x=>
  refine int_inv e λi I p=>aS p λD p=>az p λk L p=>?_;have B:=mq D;clear e D;subst I;refine aT F.int λt j=>?_;clear F;subst j;refine aT G.str λu j=>?_;clear G;subst j;refine bR (oi L) λK U J=>tail_any (typeIs_str s x u) PySem.F.slot_str_getitem.lookup (P.getItem_str ?_ ?_ (c.same H (one p (.str _ _)))) (hs _ _)
  ·refine rl (decide_eq_false (ED B)) (rl (decide_eq_false (E7 B)) ?_);rfl
  ·refine rl K ?_;have:k<x.cps.size:=U;simp[this]
 |_=>exact no e
theorem cH.cont{α:Type}{b:PM}(a:cH h₀ op env f as s.heap ρ σ2 b s2.heap)
  (q:∀f' h' tk val,cH h₀ op env f as s.heap ρ σ2 f' h'→R f' val→Q val {s2 with heap:=h',toks:=tk}):Cont h₀ b as s2 σ2 R Q:=
 λf' h' tk val st c r=>q f' h' tk val (a.trans (cH.of a.vr st c)) r
variable{Q:Value→Shared→Prop}
theorem both(r:aY w h₀ n env op op a (aH C ta))(p:aY w h₀ n env op op b (aH C tb))(m:aH C ta ρ σ=some (va,σ1))(l:aH C tb ρ σ1=some (vb,σ2))
  (R:bO A n)(H:Hp h₀ f as s.heap σ)(o:Vr op f as env s.heap ρ){Q':Value→Value→Shared→Prop}
  (q:∀f2 h2 tk x y,cH h₀ op env f as s.heap ρ σ2 f2 h2→jG f2 as x va→jG f2 as y vb→Q' x y {s with heap:=h2,toks:=tk}):
  wpAny (model P0 w) A (eval a env) (λx i=>wpAny (model P0 w) A (eval b env) (λy s2=>Q' x y s2) E i) E s:=
 r ρ σ va σ1 m A f as s _ E R H o λk j d x e o1=>p ρ σ1 vb σ2 l A k as {s with heap:=j,toks:=d} _ E R e.hp e.vr λf2 h2 c y g o2=>q f2 h2 c x y (e.trans g) (o1.mono g.step.le) o2
theorem aE{a b:Expr}{g d:T}{o:MJ}{pos:Pos}(t:aY w h₀ n env op op a (aH C g))(r:aY w h₀ n env op op b (aH C d)):aY w h₀ n env op op (.BinOp a (PY o) b pos) (aH C (.bin o g d)):=by intro ρ σ v σ' e;refine au e λD σ1 p e=>?_;refine au e λB σ2 m e=>?_;refine az e λx l e=>az e λy k e=>?_;refine az e λz j e=>?_;refine two e ?_;intro A f as s Q E R H V q;exact wpAny_BinOp (both t r p m R H V λF i tk u v c o1 o2=>BE j c.hp (c.hp.view l o1) (c.hp.view k o2) (cH.cont (α:=Unit) (s2:={s with heap:=i,toks:=tk}) c q))
theorem aL{a b:Expr}{g d:T}{pos:Pos}(hs:∀o i,subscripted b false o i=operate [o,i] (getItem o i))(B:aY w h₀ n env op op a (aH C g))(t:aY w h₀ n env op op b (aH C d)):aY w h₀ n env op op (.Subscript a b pos) (aH C (.sub g d)):=by intro ρ σ v σ' e;refine au e λF σ1 r e=>?_;refine au e λD σ2 p e=>?_;refine az e λx m e=>az e λy l e=>?_;refine az e λz k e=>?_;refine two e ?_;intro A f as s Q E R H V q;exact Subscript_ (both B t r p R H V λG j tk u v c o1 o2=>MB k c.hp (c.hp.view m o1) (c.hp.view l o2) (cH.cont (α:=Unit) (s2:={s with heap:=j,toks:=tk}) c q) hs)
theorem cW(G:i7 h₀){a b:Expr}{i g:T}{o:HH}{pos:Pos}(F:aY w h₀ n env op op a (aH C i))(D:aY w h₀ n env op op b (aH C g))(j:behindInMarks (FF o) b=false):
  aY w h₀ n env op op (.Compare a [FF o] [b] pos) (aH C (.cmp o i g)):=by
 intro ρ σ v σ' e;refine au e λJ σ1 B e=>?_;refine au e λI σ2 t e=>?_;refine az e λx r e=>az e λy p e=>?_;refine az e λz m e=>?_;refine two e ?_;intro A f as s Q E R H V q;refine wpAny_Compare1 (both F D B t R H V λl k tk u v c o1 o2=>iO G R m c.hp (c.hp.view r o1) (c.hp.view p o2) λd=>q l k d _ c (.bool z)) j
theorem aN(G:i7 h₀){a b:Expr}{i g:T}{o:HH}{pos:Pos}(F:aY w h₀ n env op op a (aH C i))(D:aY w h₀ n env op op b (aH C g))(j:behindInMarks (FF o) b=false):
  mU w h₀ n env op op (.Compare a [FF o] [b] pos) (λρ σ=>lV (aH C (.cmp o i g) ρ σ)):=by
 intro ρ σ v σ' e;refine au (cX e) λJ σ1 B e=>?_;refine au e λI σ2 t e=>?_;refine az e λx r e=>az e λy p e=>?_;refine az e λz m e=>?_;refine Aj e ?_;intro A f as s Q E R H V q;refine wpAny_isTrue_Compare1 (both F D B t R H V λl k tk u v c o1 o2=>iO G R m c.hp (c.hp.view r o1) (c.hp.view p o2) λd=>wpAny_truthy_bool (q l k d c)) j
end
section
variable{w:World}{h₀ h h':Heap}{f f':PM}{as:List (Addr×Addr)}{σ σ' σ2:ak}{A:Around}{E:Value→Shared→Prop}{s:Shared}{n:Nat}{env:Env}{op dU jD:Bool}{C:Mine.Sem}{ρ:aB}
theorem cO(d:aY w h₀ n env op op a (aH C ta))(c:∀whole,PySem.isTrue a env whole=(do let v←whole;standAt a.pos;holding [v] (truthy v))):mU w h₀ n env op op a (λρ σ=>lV (aH C ta ρ σ)):=
 λρ σ b σ' e A f as s b E R H V q=>wpAny_isTrue_value (d ρ σ _ σ' (cX e) A f as s _ E R H V λf' h' tk b g o1=>bP.q6 o1▸wpAny_truthy_bool (q f' h' tk g)) (c _)
theorem dz(d:mU w h₀ n env op op a (λρ σ=>lV (aH C ta ρ σ))):mU w h₀ n env op op (.UnaryOp .Not a pos) (λρ σ=>lV (aH C (.not ta) ρ σ)):=λρ σ v σ' e=>au (cX e) λb σ1 c e=>Aj e λA f as s i E R H V q=>wpAny_isTrue_Not (d ρ σ b _ c A f as s _ E R H V λf' h' tk g=>q f' h' tk g)
theorem yG(g:aY w h₀ n env op op a (aH C ta)):aY w h₀ n env op op (.UnaryOp .Not a pos) (aH C (.not ta)):=λρ σ v σ' e=>au e λb σ1 d e=>two e λA f as s c E R H V q=>wpAny_UnaryOp (g ρ σ _ _ (cX d) A f as s _ E R H V λf' h' tk c i o1=>bP.q6 o1▸wpAny_bind (wpAny_truthy_bool (wpAny_pure (q f' h' tk _ i (.bool _)))))
noncomputable def TW(w:World)(h₀:Heap)(n:Nat)(env:Env)(op:Bool)(o:BoolOp)(l:List Expr)(ρ:aB)(σ:ak)(b:Bool)(σ':ak):Prop:=
 ∀(A:Around) (f:PM) (as:List (Addr×Addr)) (s:Shared) (Q:Bool→Shared→Prop) (E:Value→Shared→Prop),
  bO A n→Hp h₀ f as s.heap σ→Vr op f as env s.heap ρ→(∀f' h' tk,cH h₀ op env f as s.heap ρ σ' f' h'→Q b {s with heap:=h',toks:=tk})→wpAny (model P0 w) A (allTrue o l env) Q E s
noncomputable def tR(w:World)(h₀:Heap)(n:Nat)(env:Env)(op:Bool)(o:BoolOp)(l:List Expr)(ev:aB→ak→Option (Bool×ak)):Prop:=
 ∀(ρ:aB) (σ:ak) (b:Bool) (σ':ak),ev ρ σ=some (b,σ')→TW w h₀ n env op o l ρ σ b σ'
theorem eu:tR w h₀ n env op .And [] (dJ C .nil):=λρ σ v σ' e=>two e λA f as s a E R H V q=>wpAny_allTrue_And_nil (q f s.heap s.toks (.refl H V))
theorem cj:tR w h₀ n env op .Or [] (nT C .nil):=λρ σ v σ' e=>two e λA f as s a E R H V q=>wpAny_allTrue_Or_nil (q f s.heap s.toks (.refl H V))
theorem bJ(m:mU w h₀ n env op op a (λρ σ=>lV (aH C ta ρ σ)))(r:tR w h₀ n env op .And l (dJ C tl)):tR w h₀ n env op .And (a::l) (dJ C (.cons ta tl)):=by
 refineλρ σ v σ' e=>au e λb σ1 k e=>?_;cases b with
 |true=>exactλA f as s Q E R H V q=>wpAny_allTrue_And_cons (m ρ σ true σ1 k A f as s _ E R H V λj i c d=>
   mE (r ρ σ1 v σ' e A j as {s with heap:=i,toks:=c} Q E R d.hp d.vr λp o g t=>q p o g (d.trans t)))
 |false=>exact two e λA f as s Q E R H V q=>wpAny_allTrue_And_cons (m ρ σ false _ k A f as s _ E R H V λj i c d=>mD (q j i c d))
theorem aP(m:mU w h₀ n env op op a (λρ σ=>lV (aH C ta ρ σ)))(r:tR w h₀ n env op .Or l (nT C tl)):tR w h₀ n env op .Or (a::l) (nT C (.cons ta tl)):=by
 refineλρ σ v σ' e=>au e λb σ1 k e=>?_;cases b with
 |false=>exactλA f as s Q E R H V q=>wpAny_allTrue_Or_cons (m ρ σ false σ1 k A f as s _ E R H V λj i c d=>
   mD (r ρ σ1 v σ' e A j as {s with heap:=i,toks:=c} Q E R d.hp d.vr λp o g t=>q p o g (d.trans t)))
 |true=>exact two e λA f as s Q E R H V q=>wpAny_allTrue_Or_cons (m ρ σ true _ k A f as s _ E R H V λj i c d=>mE (q j i c d))
theorem iZ(c:tR w h₀ n env op .And l (dJ C tl)):mU w h₀ n env op op (.BoolOp .And l pos) (λρ σ=>lV (aH C (.and tl) ρ σ)):=λρ σ v σ' e=>au (cX e) λb σ1 a e=>Aj e λA f as s Q E R H V q=>wpAny_isTrue_BoolOp (c ρ σ _ _ a A f as s Q E R H V q)
theorem eV(c:tR w h₀ n env op .Or l (nT C tl)):mU w h₀ n env op op (.BoolOp .Or l pos) (λρ σ=>lV (aH C (.or tl) ρ σ)):=λρ σ v σ' e=>au (cX e) λb σ1 a e=>Aj e λA f as s Q E R H V q=>wpAny_isTrue_BoolOp (c ρ σ _ _ a A f as s Q E R H V q)
theorem j5(p:aY w h₀ n env op op a (aH C ta))(B:aY w h₀ n env op op b (aH C tb)):aY w h₀ n env op op (.BoolOp .And [a,b] pos) (aH C (.and (.cons ta (.cons tb .nil)))):=by
 refineλρ σ v σ' e=>au e λz σ1 g e=>two e (au g λq σ2 o g=>?_);cases q with
 |true=>
  have k:aH C tb ρ σ2=some (.d (.bool z),σ1):=au (LU g) λr t y g=>by cases r<;>exact two g (cX y)
  exactλA f as s Q E R H V q=>wpAny_And2 (p ρ σ _ _ (cX o) A f as s _ E R H V λm l d c i o1=>bP.q6 o1▸wpAny_truthy_bool
   (mE (B ρ σ2 _ _ k A m as {s with heap:=l,toks:=d} Q E R i.hp i.vr λx u j c D o2=>q x u j c (i.trans D) o2)))
 |false=>exact two g λA f as s Q E R H V q=>wpAny_And2 (p ρ σ _ _ (cX o) A f as s _ E R H V λm l d c i o1=>bP.q6 o1▸wpAny_truthy_bool (mD (q m l d _ i (.bool _))))
theorem GX(p:aY w h₀ n env op op a (aH C ta))(B:aY w h₀ n env op op b (aH C tb)):aY w h₀ n env op op (.BoolOp .Or [a,b] pos) (aH C (.or (.cons ta (.cons tb .nil)))):=by
 refineλρ σ v σ' e=>au e λz σ1 g e=>two e (au g λq σ2 o g=>?_);cases q with
 |false=>
  have k:aH C tb ρ σ2=some (.d (.bool z),σ1):=au (OX g) λr t y g=>by cases r<;>exact two g (cX y)
  exactλA f as s Q E R H V q=>wpAny_Or2 (p ρ σ _ _ (cX o) A f as s _ E R H V λm l d c i o1=>bP.q6 o1▸wpAny_truthy_bool
   (mD (B ρ σ2 _ _ k A m as {s with heap:=l,toks:=d} Q E R i.hp i.vr λx u j c D o2=>q x u j c (i.trans D) o2)))
 |true=>exact two g λA f as s Q E R H V q=>wpAny_Or2 (p ρ σ _ _ (cX o) A f as s _ E R H V λm l d c i o1=>bP.q6 o1▸wpAny_truthy_bool (mE (q m l d _ i (.bool _))))
theorem GV(t:mU w h₀ n env op op c (λρ σ=>lV (aH C tc ρ σ)))(x:aY w h₀ n env op op a (aH C ta))(u:aY w h₀ n env op op b (aH C tb)):
  aY w h₀ n env op op (.IfExp c a b pos) (aH C (.Nx tc ta tb)):=by
 refineλρ σ v σ' e=>au e λb σ1 r e=>?_;cases b with
 |true=>exactλA f as s Q E R H V q=>wpAny_IfExp (t ρ σ true σ1 r A f as s _ E R H V λo l i j=>mE (x ρ σ1 v σ' e A o as {s with heap:=l,toks:=i} Q E R j.hp j.vr λm k g d p o2=>q m k g d (j.trans p) o2))
 |false=>exactλA f as s Q E R H V q=>wpAny_IfExp (t ρ σ false σ1 r A f as s _ E R H V λo l i j=>mD (u ρ σ1 v σ' e A o as {s with heap:=l,toks:=i} Q E R j.hp j.vr λm k g d p o2=>q m k g d (j.trans p) o2))
theorem nu(G:i7 h₀)(N:aY w h₀ n env op op a (aH C ta))(M:aY w h₀ n env op op b (aH C tb))(Hc:aY w h₀ n env op op c (aH C tc))
  (B:lastMarks [FF o1,FF o2] [b,c]=false):mU w h₀ n env op op (.Compare a [FF o1,FF o2] [b,c] pos) (λρ σ=>lV (aH C (.ud o1 o2 ta tb tc) ρ σ)):=by
 refineλρ σ v σ' e=>au (cX e) λW σ1 L e=>au e λy σ2 K e=>az e λx J e=>az e λr I e=>λA f as s Q E R H V q=>isTrue_chain (N ρ σ W σ1 L A f as s _ E R H V λf1 h1 p U m j=>test_link (M ρ σ1 _ σ2 (oq K) A f1 as {s with heap:=h1,toks:=p} _ E R m.hp m.vr λF D Y T d i=>?_)) B;have k:=m.trans d;refine iO G R I d.hp (d.hp.view J (j.mono d.step.le)) (.inl i) λg=>wpAny_truthy_bool ?_;clear N M B L K J I H V m j;cases r with
 |true=>
  refine mE (au (LU e) λS O ec e=>az e λz u e=>az e λr er e=>?_)
  revert q
  refine Aj e λq=>test_last (Hc ρ σ2 S _ ec A F as {s with heap:=D,toks:=g} _ E R d.hp d.vr λf3 Z X P l t=>?_);exact iO G R er l.hp (.inl (bP.mono l.step.le i)) (l.hp.view u t) λo=>wpAny_truthy_bool (q f3 Z o (k.trans l))
 |false=>
  revert q
  exact Aj e λq=>mD (q F D g k)
end
inductive cV(f:PM)(as:List (Addr×Addr)):List Value→List V→Prop
 |nil:cV f as [] []
 |cons {v:Value} {x:V} {vs:List Value} {xs:List V}:jG f as v x→cV f as vs xs→cV f as (v::vs) (x::xs)
section
variable{w:World}{h₀ h h':Heap}{f f':PM}{as:List (Addr×Addr)}{σ σ' σ2:ak}{A:Around}{E:Value→Shared→Prop}{s:Shared}{n:Nat}{env:Env}{op dU jD:Bool}{C:Mine.Sem}{ρ:aB}
theorem cV.mono(l:f.le f')(h:cV f as vs xs):cV f' as vs xs:=by
 induction h with
 |nil=>exact .nil
 |cons a _ b=>exact .cons (a.mono l) b
theorem cV.length(h:cV f as vs xs):vs.length=xs.length:=by
 induction h with
 |nil=>rfl
 |cons _ _ a=>exact congrArg (λx=>x+1) a
theorem Hp.pM:∀{vs:List Value} {ds:List D} {f:PM} {σ σ':ak},cV f as vs xs→Hp h₀ f as h σ→Mine.kY σ xs=some (ds,σ')→∃f',Hp h₀ f' as h σ'∧Step f h (as.map (λx=>x.2)) [] f' h∧bQ f' vs ds:=by
 induction xs with
 |nil=>intro vs ds f σ σ' o H e;cases o;exact two e ⟨f,H,.refl ..,.nil⟩
 |cons x xs g=>
  intro vs ds f σ σ' o H e;cases o with
  |cons a r=>exact au e λd σ1 k e=>au e λl σ2 j e=>two e (by
    exact bG (H.toD k a) λu t c p=>bG (g (r.mono c.le) t j) λi q b m=>⟨i,q,c.trans b,.cons (p.mono b.le) m⟩)
noncomputable def LW(w:World)(h₀:Heap)(n:Nat)(env:Env)(op op':Bool)(l:List Expr)(ρ:aB)(σ:ak)(xs:List V)(σ':ak):Prop:=
 ∀(pos:Pos) (A:Around) (f:PM) (as:List (Addr×Addr)) (s:Shared) (Q:List Value→Shared→Prop) (E:Value→Shared→Prop),
  bO A n→Hp h₀ f as s.heap σ→Vr op f as env s.heap ρ→(∀f' h' tk vs,cH h₀ op' env f as s.heap ρ σ' f' h'→cV f' as vs xs→Q vs {s with heap:=h',toks:=tk})→
  wpAny (model P0 w) A (spliced (backTo pos (starEach l env))) Q E s
noncomputable def eW(w:World)(h₀:Heap)(n:Nat)(env:Env)(op op':Bool)(l:List Expr)(ev:aB→ak→Option (List V×ak)):Prop:=
 (∀(ρ:aB) (σ:ak) (xs:List V) (σ':ak),ev ρ σ=some (xs,σ')→LW w h₀ n env op op' l ρ σ xs σ')∧∀pos,(backTo pos (starEach l env)).any (λx=>x.1)=false
theorem aD:eW w h₀ n env op op [] (bH C .nil):=
 ⟨λρ σ v σ' e=>two e λpos A f as s Q E R H V q=>spliced_nil (q f s.heap s.toks [] (.refl H V) .nil),λa=>rfl⟩
theorem af{a:Expr}(k:starEach (a::l) env=(false,eval a env)::starEach l env)(y:aY w h₀ n env op dU a (aH C ta))(i:eW w h₀ n env dU jD l (bH C tl)):
  eW w h₀ n env op jD (a::l) (bH C (.cons ta tl)):=by
 have g:∀pos,backTo pos (starEach (a::l) env)=(false,eval a env)::backTo pos (starEach l env):=λpos=>by refine rl k ?_;rfl
 refine⟨λρ σ v σ' e=>au e λx σ1 u e=>au e λxs σ2 t e=>two e λpos A f as s Q E R H V q=>?_,λpos=>by simp only[g,List.any_cons,i.2 pos];rfl⟩;rw[g];exact spliced_cons (y ρ σ x σ1 u A f as s _ E R H V λr o c v d o1=>i.1 ρ σ1 xs _ t pos A r as {s with heap:=o,toks:=c} _ E R d.hp d.vr λp m b vs j o2=>q p m b (v::vs) (d.trans j) (.cons (o1.mono j.step.le) o2))
theorem dX(h:fits n=true):n≤sizeLine:=by have:=Nat.blt_eq.mp h;simp only[lim]at this;exact rl sizeLine_eq (AI this)
theorem bc(p:eW w h₀ n env op dU l (bH C tl)):aY w h₀ n env op dU (.Tuple l k pos) (aH C (.tup tl)):=by refineλρ σ v σ' e=>au e λxs σ1 m e=>au e λds σ2 j e=>aS e λg e=>two e ?_;refineλA f as s Q E R H V q=>wpAny_Tuple_spliced (p.1 ρ σ xs σ1 m pos A f as s _ E R H V λu i a vs b o1=>?_);refine bG (b.hp.pM o1 j) λt d o c=>?_;have r:=b.trans (cH.of b.vr o d);exact⟨rl c.length (dX g),Cont.push (s:={s with heap:=i,toks:=a}) (cH.cont (α:=Unit) r q) d λf' l q=>.tup q (c.mono l)⟩
theorem bX(o:eW w h₀ n env op dU l (bH C tl)):aY w h₀ n env op dU (.List l pos) (aH C (.lst tl)):=by refineλρ σ v σ' e=>au e λxs σ1 k e=>au e λds σ2 j e=>aS e λg e=>two e ?_;refineλA f as s Q E R H V q=>wpAny_List_spliced (o.1 ρ σ xs σ1 k pos A f as s _ E R H V λt i a vs b o1=>?_);refine bG (b.hp.pM o1 j) λr d m c=>?_;have p:=b.trans (cH.of b.vr m d);exact⟨rl c.length (dX g),Cont.push (s:={s with heap:=i,toks:=a}) (cH.cont (α:=Unit) p q) d λf' l q=>.lst q (c.mono l)⟩
theorem Step.gone(S:Step f h (as.map (λx=>x.2)++Env.adr env) Z f' h')(H:Hp h₀ f' as h' σ)(V:Vr op f' as env h' ρ)(e:h'.get? a=none):h.get? a=none:=by
 cases z:h.get? a with
 |none=>rfl
 |some o=>
  by_cases c:a∈as.map (λx=>x.2)++Env.adr env
  ·refine Or.elim (List.mem_append.mp c) (λc=>?_) λc=>?_
   ·refine ay (List.mem_map.mp c) λp j d=>?_;subst d;obtain⟨g,b⟩:=H.has p j;rw[e]at b;exact no b
   ·obtain⟨g,b⟩:=V.has a c;rw[e]at b;exact no b
  ·by_cases i:a∈cT
   ·obtain⟨g,b⟩:=H.tabAt i;rw[e]at b;exact no b
   ·have:=S.keep a o z c i;rw[e]at this;exact no this
theorem cH.gone(a:cH h₀ op env f as h ρ σ' f' h')(e:h'.get? x=none):h.get? x=none:=a.step.gone a.hp a.vr e
noncomputable def NW(w:World)(h₀:Heap)(n:Nat)(env:Env)(op:Bool)(t:PySem.Sem Value)(ρ:aB)(σ:ak)(c:Cell)(σ':ak):Prop:=
 ∀(A:Around) (f:PM) (as:List (Addr×Addr)) (s:Shared) (Q:Value→Shared→Prop) (E:Value→Shared→Prop),
  bO A n→Hp h₀ f as s.heap σ→Vr op f as env s.heap ρ→
  (∀f' h' tk p,Step f s.heap (as.map (λx=>x.2)++Env.adr env) (Env.qK env) f' h'→Hp h₀ f' (as++[p]) h' (σ'++[c])→Vr op f' (as++[p]) env h' ρ→s.heap.get? p.2=none→Q (.ref p.1) {s with heap:=h',toks:=tk})→
  wpAny (model P0 w) A t Q E s
noncomputable def qP(w:World)(h₀:Heap)(n:Nat)(env:Env)(op:Bool)(t:PySem.Sem Value)(ev:aB→ak→Option (Cell×ak)):Prop:=
 ∀(ρ:aB) (σ:ak) (c:Cell) (σ':ak),ev ρ σ=some (c,σ')→NW w h₀ n env op t ρ σ c σ'
theorem Vr.more(V:Vr op f as env h ρ)(c:p.2∉Env.adr env):Vr op f (as++[p]) env h ρ:=
 ⟨V.ok,λx y e=>let⟨l,v,b,o⟩:=V.vars x y e;⟨l,v,b,o.more⟩,V.ns,V.cell,λq a=>(List.mem_append.mp a).elim (V.apart q) λz=>rl (List.mem_singleton.mp z) c,V.tab,V.g7,V.jJ,V.inj,V.ig⟩
theorem Hp.mL(H:Hp h₀ f as h σ){o:Obj}{c:Cell}(k:∀b o',h.get? b=some o'→h'.get? b=some o'){a:Addr}(j:h.get? a=none)(C:fN f (as++[(a,a)]) h' (a,a) c)(i:c.live=true):Hp h₀ f (as++[(a,a)]) h' (σ++[c]):=by exact bR (H.off j) λt p e=>(H.keeps k).LQ (a,a) C e (C.at i).1 λr k q d m l g=>p k q d m l g
theorem Vr.off(V:Vr op f as env h ρ)(b:h.get? a=none):a∉Env.adr env:=λq=>by refine aT (V.has a q) λo e=>?_;rw[b]at e;exact no e
theorem g8{l:List Expr}{m:Ts}{pos:Pos}(z:eW w h₀ n env op op l (bH C m)):qP w h₀ n env op (eval (.List l pos) env) (fK C (.lst m)):=by
 intro ρ σ v σ' e;refine au e λxs σ1 x e=>?_;refine au e λds σ2 u e=>?_;refine aS e λr e=>?_;refine two e ?_;intro A f as s Q E R H V q;refine wpAny_List_spliced (z.1 ρ σ xs σ1 x pos A f as s _ E R H V λB a g vs k o1=>?_);refine bG (k.hp.pM o1 u) λt j y p=>?_;have d:=k.trans (cH.of k.vr y j);have c:a.get? a.objs.size=none:=aq (Nat.le_refl _);have i:∀b o',a.get? b=some o'→(a.push (dR vs 0)).get? b=some o':=λb o' e=>Heap.get?_push_of_some _ e;refine⟨by refine rl p.length ?_;exact dX r,q t (a.push (dR vs 0)) g (a.objs.size,a.objs.size) ?_ ?_ ?_ ?_⟩
 ·exact d.step.trans (Step.keeps i)
 ·exact j.mL (o:=dR vs 0) i c ⟨rfl,(j.off c).1,vs,0,Heap.get?_push_size _ rfl,p⟩ rfl
 ·exact(d.vr.step0 (Step.keeps i)).more (d.vr.off c)
 ·exact d.gone c
end
structure yT(K:Frag)(c:Nat)(init:Nat)(meths:List (Nat×Nat)):Prop where
 cls:∃cd,clsIn K (ik c)=some cd∧cd.hasDict=true∧onlyObject cd.mro=true
 geta:findIn K (.ref (ik c)) "__getattribute__"=some (some (.builtin "object.__getattribute__"))
 geta2:findIn K (.ref (ik c)) "__getattr__"=some none
 keep:keepIn K (.ref (ik c))=true
 seta:findIn K (.ref (ik c)) "__setattr__"=some (some (.builtin "object.__setattr__"))
 Nq:∀f,yu c f=true→findIn K (.ref (ik c)) (nm f)=some none
 makes:makesIn K (ik c)=true
 init:findIn K (.ref (ik c)) "__init__"=some (some (.ref (ia init)))
 meths:∀p∈meths,findIn K (.ref (ik c)) (nm p.1)=some (some (.ref (ia p.2)))
section
variable{w:World}{h₀ h h':Heap}{f f':PM}{as:List (Addr×Addr)}{σ σ' σ2:ak}{A:Around}{E:Value→Shared→Prop}{s:Shared}{n:Nat}{env:Env}{op dU jD:Bool}{C:Mine.Sem}{ρ:aB}{K:Frag}
theorem Hp.qX(H:Hp h₀ f as h σ)(X:K.In h₀):K.In h:=λa o e=>H.on _ _ (H.base _ _ (X a o e))
theorem s9(e:yu c x=true):x<71∧(c=0∨c=1):=by unfold yu at e;simp only[Bool.or_eq_true,Bool.and_eq_true]at e;rcases e with⟨a,b|b⟩|⟨a,b⟩<;>have a:=Nat.eq_of_beq_eq_true a<;>have b:=Nat.eq_of_beq_eq_true b<;>lia
theorem my(b:x<71)(a:y<71):(Value.str (nm x) t).isStr (nm y)=decide (x=y):=by
 by_cases q:x=y
 ·subst q;simp[Value.isStr]
 ·have:nm x≠nm y:=λe=>q (s7 _ _ b a e);simp[Value.isStr,this,q]
theorem cA.find(g:x<71):∀{es:List DictEntry} {fs:List (Nat×V)},cA f as es fs→(fs.lookup x=none∧es.find? (λy=>y.key.isStr (nm x))=none∧es.any (λx=>x.refKey)=false)∨
  ∃en v,fs.lookup x=some v∧es.find? (λy=>y.key.isStr (nm x))=some en∧jG f as en.val v
 |_,_,.nil=>.inl ⟨rfl,rfl,rfl⟩
 |_,_,.cons (x:=y) (t:=t) (v:=v) (d:=d) (hs:=hs) z a r=>by
  refine rl (List.find?_cons) ?_;refine rl List.lookup_cons ?_;by_cases q:y=x
  ·subst q;refine .inr (fu ⟨hs,.str (nm y) t,v⟩ d ⟨by simp,?_,a⟩);simp only[my z z,decide_true]
  ·have j:=beq_eq_false_iff_ne.mpr λe=>q e.symm;simp only[my z g,decide_eq_false q,j];refine Or.elim (r.find g) (λi=>?_) λh=>?_
   ·exact bR i λm l k=>.inl ⟨m,l,by refine rl List.any_cons (rl k ?_);rfl⟩
   ·exact .inr h
theorem cA.look{x:Nat}(d:x<71)(F:cA f as es fs)(e:fs.lookup x=some v):∃u,lookIn (nm x) (dm es n)=some (some u)∧jG f as u v:=by
 refine Or.elim (F.find d) (λb=>?_) λb=>?_
 ·refine a9 b λa b=>?_;replace a:=e▸a;exact on a
 ·refine fP b λi j a g c=>?_;rw[e]at a;(revert c;refine one a ?_;intro c)
  refine⟨i.val,?_,c⟩;show(match es.toArray.toList.find? (λy=>y.key.isStr (nm x))with |some e=>some (some e.val)|none=>_)=_;rw[show es.toArray.toList=es from rfl,g]
theorem iK.v:∀{es:List DictEntry},iK f es fs→cA f as es (fs.map λp=>(p.1,V.d p.2)):=by
 induction fs with
 |nil=>intro es h;cases h;exact .nil
 |cons p fs b=>intro es h;cases h with |cons z a r=>exact .cons z a (b r)
theorem qc:∀{fs:List (Nat×D)},fs.lookup x=some d→(fs.map λp=>(p.1,V.d p.2)).lookup x=some (.d d)
 |(y,e)::fs,h=>by
  rw[List.lookup_cons]at h;refine rl List.map_cons (rl List.lookup_cons ?_);dsimp only;cases q:x==y with
  |true=>rw[q]at h;refine one h ?_;rfl
  |false=>rw[q]at h;exact qc h
theorem bP.Hv{fs:List (Nat×D)}(g:bP f v (.inst c fs)):∃a d es n,v= .ref a∧f a=some (sQ (ik c) d)∧f d=some (dm es n)∧iK f es fs:=by
 cases g with
 |inst e b r=>exact(jC _ _ _ _ ⟨rfl,e,b,r⟩)
theorem uD(H:Hp h₀ f as h σ)(e:BA x d=some W)(o:bP f v d):
  ∃a c dx es n fs,v= .ref a∧yu c x=true∧h.get? a=some (sQ (ik c) dx)∧h.get? dx=some (dm es n)∧cA f as es fs∧fs.lookup x=some W:=by
 cases d with
 |inst c fs=>exact aS e λi g=>az g λd k g=>one g (vD (bP.Hv o) λa dx es n j g l r=>(HR _ _ _ _ _ _ ⟨j,i,H.on _ _ g,H.on _ _ l,r.v,qc k⟩))
 |_=>exact no e
theorem Gk(H:Hp h₀ f as h σ)(e:xV σ V' x=some W)(o:jG f as v V'):
  ∃a c dx es n fs,v= .ref a∧yu c x=true∧h.get? a=some (sQ (ik c) dx)∧h.get? dx=some (dm es n)∧cA f as es fs∧fs.lookup x=some W:=by
 cases V' with
 |d y=>exact uD H e o
 |loc k=>
  refine ay o λp l j=>az e λc m i=>?_;clear o e;subst j;cases c with
  |inst c fs=>exact aS i λt i=>bR (H.cells _ _ _ l m) λa b q=>cJ q λes n g r=>(HR _ _ _ _ _ _ ⟨rfl,t,H.on _ _ a,g,r,i⟩)
  |eE d=>exact uD H i (H.cells _ _ _ l m)
  |_=>exact no i
theorem wM(d:h.get? a=some (sQ (ik c) dx))(b:h.get? dx=some (dm es n)):InstAt h a (sQ (ik c) dx) (ik c) (some (dm es n)):=⟨d,rfl,rfl,b⟩
theorem handed{v:Value}(o:jG f as v W):handedIn v=true:=by
 cases W with
 |d x=>cases o<;>rfl
 |loc k=>refine ay o λp b a=>?_;clear o b;subst a;rfl
structure nE(K:Frag):Prop where
 walk:yT K 0 3 [(16,4)]
 xd:yT K 1 14 [(4,15),(31,16),(27,17),(16,18),(56,19),(57,20),(65,21)]
theorem nE.of(G:nE K)(b:yu c x=true):∃i ms,yT K c i ms:=by
 refine Or.elim ((s9 b).2) (λa=>?_) λa=>?_
 ·subst a;exact(fu _ _ G.walk)
 ·subst a;exact(fu _ _ G.xd)
theorem pO(X:K.In h₀)(G:nE K)(H:Hp h₀ f as s.heap σ)(e:xV σ V' x=some W)(o:jG f as v V')
  (q:∀u tk,jG f as u W→Q u {s with toks:=tk}):wpAny (model P0 w) A (getAttr v (nm x) ex) Q E s:=by
 refine rU (Gk H e o) λa c dx D n k=>MK k λfs b d y t F l=>?_;clear e o k;subst b;refine qM (G.of d) λi B j=>ay (F.look (s9 d).1 l (n:=n)) λu p m=>bG j.cls λI g r z=>get_value (H.qX X) (wM y t) j.geta ?_ (handed m) (q u _ m);unfold findObj;rw[g,Option.bind_some,j.Nq x d,Option.bind_some];simp only[PySem.W.ownOf,r,if_true,p,Option.bind_some]
theorem bw(X:K.In h₀)(G:nE K)(p:aY w h₀ n env op op a (aH C ta))
  (i:eval (.Attribute a (nm x) pos) env=(do let o←eval a env;standAt pos.atName;let r←holding [o] (getAttr o (nm x) true);letTemporaryGo a o r;pure r)):
  aY w h₀ n env op op (.Attribute a (nm x) pos) (aH C (.attr ta x)):=by
 exactλρ σ v σ' e=>au e λc σ1 l e=>az e λW m e=>two e (λA f as s Q E R H V q=>Attribute_any_ (p ρ σ c _ l A f as s _ E R H V λk j d t b o1=>pO X G b.hp m o1 λu tk g=>q k j tk u b g) i)
end
inductive Hand(f:PM):List (Addr×Addr)→List Cell→List Value→List AR→Prop
 |nil:Hand f [] [] [] []
 |d {as:List (Addr×Addr)} {cs:List Cell} {v:Value} {x:D} {vs:List Value} {rs:List AR}:bP f v x→Hand f as cs vs rs→Hand f as cs (v::vs) (.d x::rs)
 |c {as:List (Addr×Addr)} {cs:List Cell} {p:Addr×Addr} {c:Cell} {vs:List Value} {rs:List AR}:Hand f as cs vs rs→Hand f (p::as) (c::cs) (.ref p.1::vs) (.c c::rs)
inductive iA(as:List (Addr×Addr))(σ:ak):List Nat→List (Addr×Addr)→List Cell→Prop
 |nil:iA as σ [] [] []
 |cons {k:Nat} {ks:List Nat} {p:Addr×Addr} {c:Cell} {as0:List (Addr×Addr)} {fY:List Cell}:as[k]? =some p→σ[k]? =some c→c.whole=true→k∉ks→iA as σ ks as0 fY→iA as σ (k::ks) (p::as0) (c::fY)
noncomputable def Back(h₀:Heap)(f':PM)(as0:List (Addr×Addr))(h h':Heap)(v:Value)(cs:List Cell):AR→Prop
 | .d x=>Hp h₀ f' as0 h' cs∧bP f' v x
 | .c c=>∃p:Addr×Addr,v= .ref p.1∧h.get? p.2=none∧c.whole=true∧Hp h₀ f' (as0++[p]) h' (cs++[c])
noncomputable def lg(w:World)(h₀:Heap)(n:Nat)(C:Mine.Sem):Prop:=
 ∀(g:Nat) (rs:List AR) (r:AR) (cs:List Cell),C.call g rs=some (r,cs)→∀(A:Around) (f:PM) (as0:List (Addr×Addr)) (fY:List Cell) (vs:List Value) (s:Shared) (R:Result→Shared→Prop),
  bO A n→Hp h₀ f as0 s.heap fY→Hand f as0 fY vs rs→(∀c∈fY,c.whole=true)→
  (∀f' h' tk v,Step f s.heap (as0.map (λx=>x.2)) [] f' h'→cs.length=fY.length→(∀c∈cs,c.whole=true)→Back h₀ f' as0 s.heap h' v cs r→R (.ok (.ret v)) {s with heap:=h',toks:=tk})→
  codeAny (model P0 w) A (.call (.ref (ia g)) ⟨vs,[]⟩) R s
section
variable{w:World}{h₀ h h':Heap}{f f':PM}{as as0:List (Addr×Addr)}{σ σ' σ2:ak}{fY cs:List Cell}{A:Around}{E:Value→Shared→Prop}{s:Shared}{n:Nat}{env:Env}{op dU jD:Bool}{C:Mine.Sem}{ρ:aB}{ks:List Nat}
theorem jn{c:Cell}(e:c.whole=true):c.live=true:=by cases c<;>first|rfl|exact ft e
theorem Hand.mono(l:f.le f')(h:Hand f as cs vs rs):Hand f' as cs vs rs:=by
 induction h with
 |nil=>exact .nil
 |d a _ b=>exact .d (a.mono l) b
 |c _ b=>exact .c b
theorem iA.len{as0:List (Addr×Addr)}{fY:List Cell}(h:iA as σ ks as0 fY):as0.length=ks.length∧fY.length=ks.length:=by
 induction h with
 |nil=>exact⟨rfl,rfl⟩
 |cons _ _ _ _ _ a=>exact⟨congrArg (λx=>x+1) a.1,congrArg (λx=>x+1) a.2⟩
theorem iA.at{as0:List (Addr×Addr)}{fY:List Cell}(h:iA as σ ks as0 fY):∀{i:Nat} {p:Addr×Addr},as0[i]? =some p→∃k c,ks[i]? =some k∧as[k]? =some p∧fY[i]? =some c∧σ[k]? =some c∧c.whole=true:=by
 induction h with
 |nil=>intro i p e;exact no e
 |@cons k _ q c _ _ a b w _ _ d=>
  intro i p e;cases i with
  |zero=>exact(fu k c ⟨rfl,a.trans e,rfl,b,w⟩)
  |succ i=>exact d e
theorem iA.nodup(h:iA as σ ks as0 fY):ks.Nodup:=by
 induction h with
 |nil=>exact List.nodup_nil
 |cons _ _ _ n _ a=>exact List.nodup_cons.mpr ⟨n,a⟩
theorem iA.whole{fY:List Cell}(h:iA as σ ks as0 fY):∀c∈fY,c.whole=true:=by
 induction h with
 |nil=>intro c b;cases b
 |cons _ _ w _ _ a=>exact List.forall_mem_cons.mpr ⟨w,a⟩
theorem xA(e:(Cell.inst c fs).whole=true):∃gs:List (Nat×D),fs=gs.map λg=>(g.1,V.d g.2):=
 (Option.isSome_iff_exists.mp e).elim λx h=>az h λgs q b=>⟨gs,mr q⟩
theorem cA.any{b:List (Nat×D)}:∀{es:List DictEntry},cA f as es (b.map λg=>(g.1,V.d g.2))→cA f bs es (b.map λg=>(g.1,V.d g.2)):=by
 induction b with
 |nil=>intro es h;cases h;exact .nil
 |cons g b c=>intro es h;cases h with |cons z a r=>exact .cons z a (c r)
theorem fN.any{c:Cell}(e:c.whole=true)(C:fN f as h p c):fN f bs h p c:=by
 cases c with
 |lst l=>exact C
 |dct l=>exact C
 |inst c fs=>refine aT (xA e) λm i=>?_;subst i;exact bR C λa b j=>cJ j λk n g r=>⟨a,b,k,n,g,r.any⟩
 |eE d=>exact ft e
theorem zT{l:List Nat}{j a:Nat}(m:l.Nodup)(p:l[i]? =some a)(o:l[j]? =some a):i=j:=by
 refine aT (List.getElem?_eq_some_iff.mp p) λd g=>aT (List.getElem?_eq_some_iff.mp o) λc e=>?_;have b:=List.pairwise_iff_getElem.mp m;refine Or.elim (Nat.lt_trichotomy i j) (λh=>?_) λk=>Or.elim k (λh=>?_) λh=>?_
 ·exact absurd (g.trans e.symm) (b i j d c h)
 ·exact h
 ·exact absurd (e.trans g.symm) (b j i c d h)
theorem Hp.lend(H:Hp h₀ f as h σ)(L:iA as σ ks as0 fY):Hp h₀ f as0 h fY where
 on:=H.on
 base:=H.base
 tabs:=H.tabs
 jA:=H.jA
 len:=L.len.1.trans L.len.2.symm
 cells:=λi p c e J=>by
  refine yV (L.at e) λk c' r a o g b=>?_;rw[J]at o;(revert g b;refine one o ?_;intro g b)
  exact(H.cells k p c a g).any b
 apart:=λi j p q c d l x v N M I G=>by refine yV (L.at x) λk c' r a o g b=>yV (L.at v) λm K P D O B y=>H.apart k m p q c' K (λz=>l ?_) a D g B (jn b) (jn y);clear l x v N M I G o g b D O B y;subst z;exact zT L.nodup r P
 gE:=λp t=>by obtain⟨i,u,rfl⟩:=List.mem_iff_getElem.mp t;exact fP (L.at (List.getElem?_eq_getElem u)) λk c' r a F=>H.gE _ (List.mem_of_getElem? a)
 has:=λp t=>by obtain⟨i,u,rfl⟩:=List.mem_iff_getElem.mp t;exact fP (L.at (List.getElem?_eq_getElem u)) λk c' r a F=>H.has _ (List.mem_of_getElem? a)
theorem iA.sub(L:iA as σ ks as0 fY):∀b∈as0.map (λx=>x.2),b∈as.map (λx=>x.2):=λb d=>by refine ay (List.mem_map.mp d) λp e c=>?_;clear d;subst c;obtain⟨i,g,rfl⟩:=List.mem_iff_getElem.mp e;exact fP (L.at (List.getElem?_eq_getElem g)) λk c' m j l=>List.mem_map.mpr ⟨_,List.mem_of_getElem? j,rfl⟩
theorem uY:∀{cs:List Cell} {σ σ2:ak},putBack σ ks cs=some σ2→σ2.length=σ.length∧cs.length=ks.length:=by
 induction ks with
 |nil=>
  intro cs σ σ2 e;cases cs with
  |nil=>exact one e (⟨rfl,rfl⟩)
  |cons _ _=>exact no e
 |cons k ks a=>
  intro cs σ σ2 e;cases cs with
  |nil=>exact no e
  |cons c cs=>exact⟨(a e).1.trans List.length_set,congrArg (λx=>x+1) (a e).2⟩
theorem uX:∀{cs:List Cell} {σ σ2:ak},putBack σ ks cs=some σ2→ks.Nodup→∀(i:Nat) (c:Cell),σ2[i]? =some c→(i∉ks∧σ[i]? =some c)∨∃j:Nat,ks[j]? =some i∧cs[j]? =some c:=by
 induction ks with
 |nil=>
  intro cs σ σ2 e b i c q;cases cs with
  |nil=>exact .inl ⟨(λz=>nomatch z),Option.some.inj e▸q⟩
  |cons _ _=>exact no e
 |cons k ks o=>
  intro cs σ σ2 e b i c q;cases cs with
  |nil=>exact no e
  |cons x cs=>
   rw[List.nodup_cons]at b;refine Or.elim (o e b.2 i c q) (λd=>?_) λd=>?_
   ·obtain⟨l,a⟩:=d;by_cases g:i=k
    ·clear b q;subst g;have m:=(List.getElem?_eq_some_iff.mp a).1;rw[List.getElem?_set_self (by rw[List.length_set]at m;exact m)]at a;exact .inr ⟨0,rfl,a⟩
    ·rw[List.getElem?_set_ne (Ne.symm g)]at a;exact .inl ⟨λz=>(List.mem_cons.mp z).elim g l,a⟩
   ·exact ay d λj l a=>.inr ⟨j+1,l,a⟩
theorem Hp.back(H:Hp h₀ f as h σ)(L:iA as σ ks as0 fY)(S:Step f h (as0.map (λx=>x.2)) [] f' h')(u:Hp h₀ f' as0 h' cs)(hw:∀c∈cs,c.whole=true)(e:putBack σ ks cs=some σ2):Hp h₀ f' as h' σ2:=by
 have X:=L.nodup;have B:∀i p c,as[i]? =some p→σ2[i]? =some c→(i∉ks∧σ[i]? =some c)∨∃j:Nat,ks[j]? =some i∧cs[j]? =some c∧as0[j]? =some p∧∃c0,σ[i]? =some c0∧c0.live=true:=λi p c g b=>by
  refine Or.elim (uX e X i c b) (λq=>?_) λa=>?_
  ·exact .inl q
  ·refine ay a λj J I=>?_;have Q:j<as0.length:=by exact rl L.len.1 ((List.getElem?_eq_some_iff.mp J).1)
   refine yV (L.at (List.getElem?_eq_getElem Q)) λk c0 t m a3 F P=>?_;replace t:=J▸t;(revert m F;refine one t ?_;intro m F)
   replace m:=g▸m;exact .inr ⟨j,J,I,by refine rl (List.getElem?_eq_getElem Q) ?_;exact m.symm,c0,F,jn P⟩
 have D:∀i p c,as[i]? =some p→i∉ks→σ[i]? =some c→c.live=true→p.2∉as0.map (λx=>x.2):=λi p c g G b l z=>by refine ay (List.mem_map.mp z) λq N M=>aT (List.mem_iff_getElem.mp N) λj K=>?_;obtain⟨hj,rfl⟩:=K;exact yV (L.at (List.getElem?_eq_getElem hj)) λk c0 t m a3 F P=>H.apart i k p _ c c0 (λw=>G (w▸List.mem_of_getElem? t)) g m b F l (jn P) M.symm
 refine⟨u.on,u.base,u.tabs,u.jA,by refine rl ((uY e).1) ?_;exact H.len,λi p c g b=>?_,λi j p q c d O U T c1 c2 Z Y=>?_,H.gE,λp R=>?_⟩
 ·refine Or.elim (B i p c g b) (λa=>?_) λa=>?_
  ·refine a9 a λG b=>(H.cells i p c g b).step S.le (λl=>?_) λl=>?_
   ·obtain⟨o,r⟩:=(H.cellAt g b l).1;exact rl r (S.keep _ _ r (D i p c g G b l) (H.gE p (List.mem_of_getElem? g)))
   ·cases z:f' p.2 with
    |none=>rfl
    |some o=>
     refine Or.elim (S.new _ _ z) (λw=>?_) λa=>Or.elim a (λw=>?_) λa=>Or.elim a (λw=>?_) λa=>Or.elim a (λw=>?_) λw=>?_
     ·rw[(H.cellAt g b l).2]at w;exact no w
     ·refine aT ((H.cellAt g b l).1) λo r=>?_;rw[w]at r;exact no r
     ·exact absurd w (D i p c g G b l)
     ·cases w
     ·exact absurd w (H.gE p (List.mem_of_getElem? g))
  ·exact rS a λj J I h3 a=>(u.cells j p c h3 I).any (hw c (List.mem_of_getElem? I))
 ·have v:∀(i:Nat) (p:Addr×Addr) (c:Cell),as[i]? =some p→σ2[i]? =some c→c.live=true→∃y:Cell,σ[i]? =some y∧y.live=true:=λi p c g b l=>by
   refine Or.elim (B i p c g b) (λa=>?_) λa=>?_
   ·exact a9 a λa b=>⟨c,b,l⟩
   ·exact rS a λj a a a K=>ay K λc0 h4 h5=>⟨c0,h4,h5⟩
  exact ay (v i p c U c1 Z) λW t b1=>ay (v j q d T c2 Y) λV m b2=>H.apart i j p q W V O U T t m b1 b2
 ·refine(Classical.em (p.2∈as0.map (λx=>x.2))).elim (λz=>?_) λz=>?_
  ·exact ay (List.mem_map.mp z) λq N M=>rr M (u.has q N)
  ·exact aT (H.has p R) λo r=>⟨o,S.keep _ _ r z (H.gE p R)⟩
theorem ru:∀{ms:List Bool} {vs:List Value} {g:List AR} {ks:List Nat} {f:PM} {σ σ':ak},jh σ ms xs=some (g,σ',ks)→cV f as vs xs→Hp h₀ f as h σ→
  ∃f',Hp h₀ f' as h σ'∧Step f h (as.map (λx=>x.2)) [] f' h∧∃as0 fY,Hand f' as0 fY vs g∧iA as σ' ks as0 fY:=by
 induction xs with
 |nil=>
  intro ms vs g ks f σ σ' e o H;cases o;cases ms with
  |nil=>exact three e ⟨f,H,.refl ..,[],[],.nil,.nil⟩
  |cons b ms=>cases b<;>exact no e
 |cons x xs v=>
  intro ms vs g ks f σ σ' e o H;cases o with
  |cons a r=>
   cases ms with
   |nil=>exact no e
   |cons b ms=>
    cases b with
    |true=>
     cases x with
     |d x=>exact no e
     |loc k=>exact oY e λl σ1 m u e=>az e λc F e=>aS e λt e=>three e (by
       rw[Bool.and_eq_true]at t;refine bG (v u r H) λf' K S j=>cJ j λas0 fY q L=>ay a λp D i=>?_;subst i;exact⟨f',K,S,p::as0,c::fY,.c q,.cons D F t.1 (by simpa using t.2) L⟩)
    |false=>exact au e λd σ1 u e=>oY e λl σ2 m G e=>three e (by
      exact bG (H.toD u a) λN J z M=>bG (v G (r.mono z.le) J) λB I y j=>cJ j λas0 fY q L=>⟨B,I,z.trans y,as0,fY,.d (M.mono y.le) q,L⟩)
end
structure h8(K:Frag)(mg mb:Str→Option Value)(h₀:Heap)(sg:List D):Prop where
 X:K.In h₀
 g:h₀.Ns mainGlobals mg
 b:h₀.Ns builtinsNs mb
 nolimit:h₀.NoLimit
 builtins:∀x:Str,x≠"__name__"→mb x=bootBuiltins x
 mods:i7 h₀
 cls:nE K
 fns:∀g,g<47→∃o fd,K.lookup (ia g)=some o∧o.data= .func fd
 QY:∀P∈cT,h₀.BuiltinsAt mg P
 signs:mg "_law_signs"=some (.ref 318)∧∀f:PM,(∀a o,h₀.get? a=some o→f a=some o)→bP f (.ref 318) (.lst sg)
section
variable{w:World}{h₀ h h':Heap}{f f':PM}{as as0:List (Addr×Addr)}{σ σ' σ2:ak}{fY cs:List Cell}{A:Around}{E:Value→Shared→Prop}{s:Shared}{n:Nat}{env:Env}{op dU jD:Bool}{C:Mine.Sem}{ρ:aB}{ks:List Nat}
 {K:Frag}{mg mb:Str→Option Value}{sg:List D}
theorem Hp.all(H:Hp h₀ f as h σ):∀a o,h₀.get? a=some o→h.get? a=some o:=λa o e=>H.on _ _ (H.base _ _ e)
theorem dD(G:h8 K mg mb h₀ sg)(H:Hp h₀ f as s.heap σ)(a:jq env)(b:env.kindOf x=some .globalImplicit)(c:(x==("__debug__":Str))=false)(e:mg x=some v)(q:Q v s):
  wpAny (model P0 w) A (eval (.Name x pos) env) Q E s:=
 Name_function_global a.kind b (loadGlobal_global (rl a.glob (Heap.Ns.at' G.g (H.all _))) e q) c
theorem BG(G:h8 K mg mb h₀ sg)(H:Hp h₀ f as s.heap σ)(a:jq env)(b:env.kindOf x=some .globalImplicit)(g:(x==("__debug__":Str))=false)(e:mg x=none)(d:x≠"__name__")(c:bootBuiltins x=some v)(q:Q v s):
  wpAny (model P0 w) A (eval (.Name x pos) env) Q E s:=
 Name_function_global a.kind b (loadGlobal_builtin (rl a.glob (Heap.Ns.at' G.g (H.all _))) e (rl a.blt (Heap.Ns.at' G.b (H.all _))) ((G.builtins x d).trans c) q) g
theorem DJ(G:h8 K mg mb h₀ sg)(b:g<47)(a:env.kindOf x=some .globalImplicit)(c:(x==("__debug__":Str))=false)(e:mg x=some (.ref (ia g))):aY w h₀ n env op op (.Name x pos) (aH C (.glob g)):=by intro ρ σ v σ' d A f as s Q E R H V q;cases d;exact dD G H V.ok a c e (q f s.heap s.toks _ (.refl H V) (.fn g b))
theorem Ae(G:h8 K mg mb h₀ sg)(hs:C.signs=sg)(a:env.kindOf ("_law_signs":Str)=some .globalImplicit)(b:(("_law_signs":Str)==("__debug__":Str))=false):aY w h₀ n env op op (.Name "_law_signs" pos) (aH C .signs):=by refineλρ σ v σ' c=>two c ?_;refineλA f as s Q E R H V q=>dD G H V.ok a b G.signs.1 (q f s.heap s.toks _ (.refl H V) ?_);exact rl hs (G.signs.2 f H.base)
theorem Hp.drop(H:Hp h₀ f (as++[p]) h (σ++[c]))(u:∀x∈σ,x.whole=true):Hp h₀ f as h σ:=by
 have a:as.length=σ.length:=by have:=H.len;simp only[List.length_append]at this;exact mW this
 have l:∀{i:Nat} {q:Addr×Addr},as[i]? =some q→(as++[p])[i]? =some q:=λe=>by refine rl (List.getElem?_append_left (List.getElem?_eq_some_iff.mp e).1) ?_;exact e
 have k:∀{i:Nat} {q:Cell},σ[i]? =some q→(σ++[c])[i]? =some q:=λe=>by refine rl (List.getElem?_append_left (List.getElem?_eq_some_iff.mp e).1) ?_;exact e
 exact⟨H.on,H.base,H.tabs,H.jA,a,λi q x e m=>(H.cells i q x (l e) (k m)).any (u x (List.mem_of_getElem? m)),λi j q r c d g y v t o=>H.apart i j q r c d g (l y) (l v) (k t) (k o),
  λq b=>H.gE q (List.mem_append_left _ b),λq b=>H.has q (List.mem_append_left _ b)⟩
theorem Back.data(S:Step f h (as0.map (λx=>x.2)) [] f' h')(B:Back h₀ f' as0 h h' v cs r)(I:∀c∈cs,c.whole=true)(e:r.data=some x):
  ∃f4,Step f h (as0.map (λx=>x.2)) [] f4 h'∧Hp h₀ f4 as0 h' cs∧bP f4 v x:=by
 cases r with
 |d y=>exact one e (⟨f',S,B.1,B.2⟩)
 |c c=>
  refine rS B λp j K J H=>?_;clear B J;subst j;have g:as0.length=cs.length:=by have:=H.len;simp only[List.length_append]at this;exact mW this
  refine bG (H.freeze (k:=as0.length) (p:=p) (by simp) (by refine rl g ?_;simp) e) λf4 D u M=>?_;have L:(cs++[c]).set as0.length (.eE x)=cs++[.eE x]:=by refine rl g ?_;simp
  rw[L]at D;refine⟨f4,⟨S.le.trans u.le,S.keep,λa o q=>?_⟩,D.drop I,M⟩;refine Or.elim (u.new a o q) (λz=>?_) λb=>Or.elim b (λz=>?_) λb=>Or.elim b (λz=>?_) λb=>Or.elim b (λz=>?_) λz=>?_
  ·exact S.new a o z
  ·by_cases t:a∈as0.map (λx=>x.2)
   ·exact .inr (.inr (.inl t))
   ·by_cases m:a∈cT
    ·exact .inr (.inr (.inr (.inr m)))
    ·cases w:h.get? a with
     |none=>exact .inr (.inl rfl)
     |some G=>have:=S.keep a G w t m;rw[z]at this;exact no this
  ·refine ay (List.mem_map.mp z) λF i l=>Or.elim (List.mem_append.mp i) (λi=>?_) λi=>?_
   ·exact .inr (.inr (.inl (List.mem_map.mpr ⟨F,i,l⟩)))
   ·rw[List.mem_singleton.mp i]at l;exact .inr (.inl (l▸K))
  ·cases z
  ·exact .inr (.inr (.inr (.inr z)))
theorem Back.cell(H:Hp h₀ f as h σ)(L:iA as σ ks as0 fY)(S:Step f h (as0.map (λx=>x.2)) [] f' h')(B:Back h₀ f' as0 h h' v cs (.c c))(l:∀c∈cs,c.whole=true)(e:putBack σ ks cs=some σ2):
  ∃p:Addr×Addr,v= .ref p.1∧h.get? p.2=none∧Hp h₀ f' (as++[p]) h' (σ2++[c]):=by
 refine rS B λp g m t b=>?_;clear B;subst g;have i:as0.length=cs.length:=by have:=b.len;simp only[List.length_append]at this;exact mW this
 have y:=H.back L S (b.drop l) l e;have j:p∈as0++[p]:=List.mem_append_right _ (.head _);refine⟨p,rfl,m,y.LQ p ((b.cells as0.length p c (by simp) (by refine rl i ?_;simp)).any t) (b.gE p j) (b.has p j) λD k q d u G F z=>?_⟩;refine aT (H.has q (List.mem_of_getElem? u)) λo r=>?_;rw[z,m]at r;exact no r
theorem evalArgs_none(h:wpAny M A (spliced []) (λvs a=>Q ⟨vs,[]⟩ a) E s):wpAny M A (evalArgs g true [] []) Q E s:=by unfold evalArgs;refine wpAny_bind (wpAny_mono h (λvs a h'=>?_) λb b x=>x);refine wpAny_bind (wpAny_pure ?_);exact wpAny_holding (wpAny_bind (wpAny_pure (wpAny_bind (wpAny_pure (wpAny_pure h')))))
theorem iN(j:eW w h₀ n env op dU l (bH C tl))(k:f a=some o)(m:o.data= .func fd)
  (e:bH C tl ρ σ=some (xs,σ'))(R:bO A n)(H:Hp h₀ f as s.heap σ)(V:Vr op f as env s.heap ρ)
  (q:∀f' h' tk vs,cH h₀ dU env f as s.heap ρ σ' f' h'→cV f' as vs xs→wpAny (model P0 w) A (call (.ref a) (first++vs)) Q E {s with heap:=h',toks:=tk}):
  wpAny (model P0 w) A (callWith pos (.ref a) first (backTo pos (starEach l env)) (backToKw pos (keywordEach [] env))) Q E s:=by
 refine callWith_function_kw (o:=o) (fd:=fd) ?_;have d:=j.1 ρ σ xs σ' e pos A f as s (λvs c=>(c.heap.get? a=some o∧o.data= .func fd)∧wpAny (model P0 w) A (call (.ref a) (first++vs)) Q E c) E R H V λf' h' tk vs i o1=>⟨⟨i.hp.on _ _ (i.step.le _ _ k),m⟩,q f' h' tk vs i o1⟩;have g:=j.2 pos;generalize backTo pos (starEach l env)=ts at d g;cases ts with
 |nil=>exact evalArgs_none d
 |cons t r=>
  obtain⟨b,x⟩:=t;cases b with
  |true=>rw[List.any_cons]at g;exact tf g
  |false=>exact evalArgs_plain d
theorem kj(u:lg w h₀ n C)(e:iB C g σ rs=some (r,σ2))(R:bO A n)(H:Hp h₀ f as s.heap σ)(o:cV f as vs rs)
  (q:∀f' h' tk v as0 cs f2 σ1 ks fY,Hp h₀ f2 as s.heap σ1→Step f s.heap (as.map (λx=>x.2)) [] f2 s.heap→iA as σ1 ks as0 fY→Step f2 s.heap (as0.map (λx=>x.2)) [] f' h'→(∀c∈cs,c.whole=true)→Back h₀ f' as0 s.heap h' v cs r→putBack σ1 ks cs=some σ2→Q v {s with heap:=h',toks:=tk}):
  wpAny (model P0 w) A (call (.ref (ia g)) vs) Q E s:=by
 revert q
 exact oY e λa σ1 ks p e=>au e λz cs m e=>az e λd l e=>two e λq=>bG (ru p o H) λf2 b t i=>cJ i λas0 fY k L=>wpAny_call (u g a _ cs m A f2 as0 fY vs s _ R (b.lend L) k L.whole λf' h' tk v S y j B=>q f' h' tk v as0 cs f2 σ1 ks fY b t L S j B l)
theorem DI(G:h8 K mg mb h₀ sg)(U:lg w h₀ n C)(t:g<47)(m:env.kindOf x=some .globalImplicit)(u:(x==("__debug__":Str))=false)(e:mg x=some (.ref (ia g)))
  (N:eW w h₀ n env op dU l (bH C tl)):aY w h₀ n env op dU (.Call (.Name x np) l [] pos) (aH C (.call g tl)):=by
 refineλρ σ v σ' a=>au a λxs σ1 J a=>au a λr σ2 I a=>az a λd D a=>two a ?_;refineλA f as s Q E R H V q=>cJ (G.fns g t) λo fd p b=>wpAny_Call_Name_kw (dD G H V.ok m u e (iN N (H.base _ _ (G.X _ _ p)) b J R H V λZ X k vs c o1=>?_));exact kj U I R c.hp o1 λf' h' tk v as0 cs Y σ1 ks fY P M L S i B F=>bG (B.data S i D) λy j O T=>q y h' tk v (c.trans (cH.of c.vr (M.trans (j.wide L.sub λW z=>z)) (P.back L j O i F))) T
theorem z9(G:h8 K mg mb h₀ sg)(N:lg w h₀ n C)(r:g<47)(j:env.kindOf x=some .globalImplicit)(t:(x==("__debug__":Str))=false)(e:mg x=some (.ref (ia g)))
  (J:eW w h₀ n env op op l (bH C tl)):qP w h₀ n env op (eval (.Call (.Name x np) l [] pos) env) (fK C (.call g tl)):=by
 refineλρ σ v σ' c=>au c λxs σ1 F c=>?_;have D:=xF c;refineλA f as s Q E R H V q=>cJ (G.fns g r) λo fd m a=>wpAny_Call_Name_kw (dD G H V.ok j t e (iN J (H.base _ _ (G.X _ _ m)) a F R H V λX U O vs b o1=>?_));refine kj N D R b.hp o1 λf' h' tk v as0 cs W σ1 ks fY M P L S k B y=>bG (B.cell M L S k y) λp d u T=>?_;clear G N r j t e J F c D R H V m a o1 M k B y;subst d;have I:=P.trans (S.wide L.sub λi z=>z);exact q f' h' tk p (b.step.trans (I.wide (λi z=>List.mem_append_left _ z) λi z=>nomatch z)) T ((b.vr.step0 I).more (b.vr.off u)) (b.gone u)
end
noncomputable def Ar(w:World)(h₀:Heap)(n:Nat)(C:Mine.Sem):Prop:=
 ∀(k:Nat) (bL:List (Nat×D)) (ds:List D) (x:D),C.lam k bL ds=some x→∀(A:Around) (f:PM) (a:Addr) (vs:List Value) (s:Shared) (R:Result→Shared→Prop),
  bO A n→Hp h₀ f [] s.heap []→bP f (.ref a) (.ie k bL)→bQ f vs ds→
  (∀f' h' tk v,Step f s.heap [] [] f' h'→Hp h₀ f' [] h' []→bP f' v x→R (.ok (.ret v)) {s with heap:=h',toks:=tk})→codeAny (model P0 w) A (.call (.ref a) ⟨vs,[]⟩) R s
noncomputable def tP(w:World)(h₀:Heap)(n:Nat)(C:Mine.Sem):Prop:=
 ∀(c:Nat) (rs:List AR) (r:AR),C.new c rs=some r→∀(A:Around) (f:PM) (vs:List Value) (s:Shared) (R:Result→Shared→Prop),
  bO A n→Hp h₀ f [] s.heap []→Hand f [] [] vs rs→
  (∀f' h' tk v,Step f s.heap [] [] f' h'→Back h₀ f' [] s.heap h' v [] r→R (.ok (.ret v)) {s with heap:=h',toks:=tk})→codeAny (model P0 w) A (.call (.ref (ik c)) ⟨vs,[]⟩) R s
noncomputable def vF(K:Frag)(C:Mine.Sem):Prop:=∀c m g,C.di c m=some g→m<71∧g<47∧findIn K (.ref (ik c)) (nm m)=some (some (.ref (ia g)))∧typeIn K (.ref (ia g))=some (.type "function")∧(c=0∨c=1)
section
variable{w:World}{h₀ h h':Heap}{f f':PM}{as as0:List (Addr×Addr)}{σ σ' σ2:ak}{fY cs:List Cell}{A:Around}{E:Value→Shared→Prop}{s:Shared}{n:Nat}{env:Env}{op dU jD:Bool}{C:Mine.Sem}{ρ:aB}{ks:List Nat}
 {K:Frag}{mg mb:Str→Option Value}{sg:List D}
theorem Hp.nil(H:Hp h₀ f as h σ):Hp h₀ f [] h []:=H.lend .nil
theorem Hp.again(H:Hp h₀ f as h σ)(S:Step f h [] [] f' h')(a:Hp h₀ f' [] h' []):Hp h₀ f' as h' σ:=H.back .nil S a (λb q=>nomatch q) rfl
theorem Step.from(S:Step f h [] [] f' h'):Step f h X Z f' h':=S.wide (λa q=>nomatch q) λa q=>nomatch q
theorem ny(G:h8 K mg mb h₀ sg)(CO:lg w h₀ n C)(LO:Ar w h₀ n C)
  (X:eW w h₀ n env op dU l (bH C tl)):aY w h₀ n env op dU (.Call (.Name (nm x) np) l [] pos) (aH C (.kU x tl)):=by
 refineλρ σ v σ' b=>az b λu T b=>au b λxs σ1 U b=>?_;cases u with
 |loc k=>exact no b
 |d y=>cases y with
  |fn g=>
   refine au b λr σ2 J b=>az b λd I b=>two b ?_;refineλA f as s Q E R H V q=>wpAny_Call_Name_kw (eI V T λv m=>?_);cases m with
   |fn g Y=>exact cJ (G.fns g Y) λo fd F e=>iN X (H.base _ _ (G.X _ _ F)) e U R H V λf1 O i vs c o1=>kj CO J R c.hp o1 λf' h' tk v as0 cs P σ1 ks fY t p L S N B e3=>bG (B.data S N I) λZ W H4 D4=>q Z h' tk v (c.trans (cH.of c.vr (p.trans (W.wide L.sub λzz z=>z)) (t.back L W H4 N e3))) D4
  |ie k j=>
   refine au b λds σ2 J b=>az b λd I b=>two b ?_;refineλA f as s Q E R H V q=>wpAny_Call_Name_kw (eI V T λv m=>?_);have D:=m;obtain⟨a,o,fd,rfl,F,e⟩:∃a o fd,v= .ref a∧f a=some o∧o.data= .func fd:=by
    cases m with
    |ie a1 a2 a3 a4 a5=>exact(h9 _ _ _ ⟨rfl,a1,rfl⟩)
   refine iN X F e U R H V λf1 O i vs c o1=>bG (c.hp.pM o1 J) λP t p d2=>wpAny_call (LO k j ds d I A P a vs {s with heap:=O,toks:=i} _ R t.nil (D.mono (c.step.le.trans p.le)) d2 λf' h' tk v S H' D'=>?_);exact q f' h' tk v (c.trans (cH.of c.vr (p.trans S.from) (t.again S H'))) D'
  |_=>exact no b
theorem ju:∀{fs:List (Nat×D)},(fs.lookup m).isNone=true→(fs.map λp=>(p.1,V.d p.2)).lookup m=none
 |[],_=>rfl
 |(y,d)::fs,h=>by
  rw[List.lookup_cons]at h;refine rl List.map_cons (rl List.lookup_cons ?_);cases q:m==y with
  |true=>rw[q]at h;exact ft h
  |false=>rw[q]at h;exact ju h
theorem uE(H:Hp h₀ f as h σ)(e:LV d=some c)(g:CD m d=true)(o:bP f v d):
  ∃a dx es n fs,v= .ref a∧h.get? a=some (sQ (ik c) dx)∧h.get? dx=some (dm es n)∧cA f as es fs∧fs.lookup m=none:=by
 cases d with
 |inst c fs=>exact one e (vD (bP.Hv o) λa d es n i k j r=>(Hg _ _ _ _ _ ⟨i,H.on _ _ k,H.on _ _ j,r.v,ju g⟩))
 |_=>exact no e
theorem Gl(H:Hp h₀ f as h σ)(e:classOf σ W=some c)(i:CF σ W m=true)(o:jG f as v W):
  ∃a dx es n fs,v= .ref a∧h.get? a=some (sQ (ik c) dx)∧h.get? dx=some (dm es n)∧cA f as es fs∧fs.lookup m=none:=by
 cases W with
 |d y=>exact uE H e i o
 |loc k=>
  refine ay o λp u l=>az e λx q t=>?_;clear o e;subst l;replace i:((σ[k]?).map (Hy m)).getD false=true:=i;replace i:=q▸i;cases x with
  |inst c fs=>exact one t (bR (H.cells _ _ _ u q) λa b z=>cJ z λes n g r=>(Hg _ _ _ _ _ ⟨rfl,H.on _ _ a,g,r,Option.isNone_iff_eq_none.mp i⟩))
  |eE d=>exact uE H t i (H.cells _ _ _ u q)
  |_=>exact no t
theorem Hp.Pk(G:nE K)(b:c=0∨c=1):∃i ms,yT K c i ms:=by
 refine Or.elim b (λa=>?_) λa=>?_
 ·subst a;exact(fu _ _ G.walk)
 ·subst a;exact(fu _ _ G.xd)
theorem bV(G:h8 K mg mb h₀ sg)(CO:lg w h₀ n C)(MO:vF K C)
  (he:eval (.Call (.Attribute a (nm m) apos) l [] pos) env=(do let ov←eval a env;standAt apos.atName;let(f,first)←holding [ov] (getMethod ov (nm m) pl);callWith pos f first (backTo pos (starEach l env)) (backToKw pos (keywordEach [] env))))
  (Ha:aY w h₀ n env op op a (aH C ta))(Hl:eW w h₀ n env op dU l (bH C tl)):aY w h₀ n env op dU (.Call (.Attribute a (nm m) apos) l [] pos) (aH C (.di m ta tl)):=by
 refineλρ σ v σ' b=>au b λW σ1 eo b=>az b λc ec b=>az b λg eg b=>aS b λhl b=>au b λxs σ2 e1 b=>au b λr P e2 b=>az b λd ed b=>two b ?_;refineλA f as s Q E R H V q=>HK (MO c m g eg) λhm hg hf ht hc=>methodCall_KW (Ha ρ σ W σ1 eo A f as s _ E R H V λf1 h1 Y v1 u o1=>?_) he;refine Ox (Gl u.hp ec hl o1) λx dx p k fs D g1 g2 F Z=>?_;subst D;refine qM (Hp.Pk G.cls hc) λi ms O=>?_;have j:shadowIn (some (dm p k)) (nm m)=some false:=by
  refine Or.elim (F.find hm) (λt=>?_) λt=>?_
  ·refine bR t λt U T=>?_;show(lookIn (nm m) (dm p k)).map _=_;have:lookIn (nm m) (dm p k)=some none:=by show(match p.toArray.toList.find? (λx=>x.key.isStr (nm m))with |some e=>some (some e.val)|none=>if p.toArray.toList.any (λx=>x.refKey)then none else some none)=_;refine rl (show p.toArray.toList=p from rfl) (rl U ?_);refine rl T ?_;rfl
   refine rl this ?_;rfl
  ·refine cJ t λen v' J t=>?_;rw[Z]at J;exact no J
 exact method_fn (u.hp.qX G.X) (wM g1 g2) O.geta O.geta2 hf ht j (cJ (G.fns g hg) λo fd ho I=>iN Hl (u.hp.base _ _ (G.X _ _ ho)) I e1 R u.hp u.vr λf2 h2 X vs y o2=>kj (vs:=.ref x::vs) CO e2 R y.hp (.cons (o1.mono y.step.le) o2) λf' h' tk v as0 cs f2 σ1 ks fY H2 S2 L S M B e3=>bG (B.data S M ed) λf4 N H4 D4=>q f4 h' tk v ((u.trans y).trans (cH.of y.vr (S2.trans (N.wide L.sub λt z=>z)) (H2.back L N H4 M e3))) D4)
theorem zL:∀{rs:List AR} {σ σ':ak} {ks:List Nat},jh σ (xs.map λa=>false) xs=some (rs,σ',ks)→ks=[]:=by
 induction xs with
 |nil=>intro rs σ σ' ks e;exact three e rfl
 |cons x xs b=>intro rs σ σ' ks e;exact au e λd σ1 a e=>oY e λa a a c e=>three e (b c)
theorem o7{r:AR}(l:tP w h₀ n C)(e:jb C c σ rs=some (r,σ2))(R:bO A n)(H:Hp h₀ f as s.heap σ)(o:cV f as vs rs)
  (q:∀f' h' tk v f2,Hp h₀ f2 as s.heap σ2→Step f s.heap (as.map (λx=>x.2)) [] f2 s.heap→Step f2 s.heap [] [] f' h'→Back h₀ f' [] s.heap h' v [] r→Q v {s with heap:=h',toks:=tk}):
  wpAny (model P0 w) A (call (.ref (ik c)) vs) Q E s:=by
 revert q
 refine oY e λb σ1 ks a e=>az e λm j e=>two e λq=>bG (ru a o H) λf2 g k d=>cJ d λas0 fY i L=>?_;have:=zL a;clear H o a e d;subst this;cases L;exact wpAny_call (l c b _ j A f2 vs s _ R g.nil i λf' h' tk v S B=>q f' h' tk v f2 g k S B)
theorem call_cls(X:K.In h₀)(k:keepIn K (.ref kc)=true)(i:eW w h₀ n env op dU l (bH C tl))
  (e:bH C tl ρ σ=some (xs,σ'))(R:bO A n)(H:Hp h₀ f as s.heap σ)(V:Vr op f as env s.heap ρ)
  (q:∀f' h' tk vs,cH h₀ dU env f as s.heap ρ σ' f' h'→cV f' as vs xs→wpAny (model P0 w) A (call (.ref kc) vs) Q E {s with heap:=h',toks:=tk}):
  wpAny (model P0 w) A (callWith pos (.ref kc) [] (backTo pos (starEach l env)) (backToKw pos (keywordEach [] env))) Q E s:=by
 have c:=i.2 pos;refine callWith_of (by refine rl c ?_;rfl) (keeps_K k) ?_;have g:=i.1 ρ σ xs σ' e pos A f as s (λvs d=>K.In d.heap∧wpAny (model P0 w) A (call (.ref kc) ([]++vs)) Q E d) E R H V λf' h' tk vs j o1=>⟨j.hp.qX X,q f' h' tk vs j o1⟩;generalize backTo pos (starEach l env)=ts at g c;cases ts with
 |nil=>exact evalArgs_none g
 |cons t r=>
  obtain⟨b,x⟩:=t;cases b with
  |true=>rw[List.any_cons]at c;exact tf c
  |false=>exact evalArgs_plain g
theorem GW(G:h8 K mg mb h₀ sg)(F:tP w h₀ n C)(o:c=0∨c=1)(k:env.kindOf x=some .globalImplicit)(m:(x==("__debug__":Str))=false)(e:mg x=some (.ref (ik c)))
  (I:eW w h₀ n env op dU l (bH C tl)):aY w h₀ n env op dU (.Call (.Name x np) l [] pos) (aH C (.new c tl)):=by
 refineλρ σ v σ' a=>au a λxs σ1 y a=>au a λr σ2 u a=>az a λd t a=>two a ?_;refineλA f as s Q E R H V q=>qM (Hp.Pk G.cls o) λi P N=>wpAny_Call_Name_kw (dD G H V.ok k m e (call_cls G.X N.keep I y R H V λW T j vs b o1=>?_));exact o7 F u R b.hp o1 λf' h' tk v U L D S B=>bG (B.data S (λO z=>nomatch z) t) λp g J M=>q p h' tk v (b.trans (cH.of b.vr (D.trans (Step.from g)) (L.again g J))) M
theorem DH(G:h8 K mg mb h₀ sg)(y:tP w h₀ n C)(m:c=0∨c=1)(j:env.kindOf x=some .globalImplicit)(k:(x==("__debug__":Str))=false)(e:mg x=some (.ref (ik c)))
  (D:eW w h₀ n env op op l (bH C tl)):qP w h₀ n env op (eval (.Call (.Name x np) l [] pos) env) (fK C (.new c tl)):=by
 refineλρ σ v σ' b=>au b λxs σ1 t b=>?_;have r:=xF b;refineλA f as s Q E R H V q=>qM (Hp.Pk G.cls m) λi N I=>wpAny_Call_Name_kw (dD G H V.ok j k e (call_cls G.X I.keep D t R H V λT O J vs a o1=>?_));refine o7 y r R a.hp o1 λf' h' tk v P F L S B=>bG (B.cell F .nil S (λg z=>nomatch z) rfl) λp d o M=>?_;clear G y m j k e D t b r R H V I o1 F B;subst d;have u:=L.trans (Step.from S);exact q f' h' tk p (a.step.trans (u.wide (λg z=>List.mem_append_left _ z) λg z=>nomatch z)) M ((a.vr.step0 u).more (a.vr.off o)) (a.gone o)
end
structure dI(h₀:Heap)(op':Bool)(env:Env)(f:PM)(as:List (Addr×Addr))(h:Heap)(ρ':aB)(σ':ak)(f':PM)(as':List (Addr×Addr))(h':Heap):Prop where
 step:Step f h (as.map (λx=>x.2)++Env.adr env) (Env.qK env) f' h'
 hp:Hp h₀ f' as' h' σ'
 vr:Vr op' f' as' env h' ρ'
 grown:∃bs,as'=as++bs∧∀p∈bs,h.get? p.2=none
inductive D9(f:PM)(as:List (Addr×Addr)):Fl→Flow→Prop
 |next:D9 f as .next .next
 |cont:D9 f as .cont .cont
 |ret {v:Value} {x:V}:jG f as v x→D9 f as (.ret x) (.ret v)
noncomputable def AW(w:World)(h₀:Heap)(n:Nat)(A:Around)(env:Env)(op op':Bool)(t:PySem.Sem Flow)(ρ:aB)(σ:ak)(fl:Fl)(ρ':aB)(σ':ak):Prop:=
 ∀(f:PM) (as:List (Addr×Addr)) (s:Shared) (Q:Flow→Shared→Prop) (E:Value→Shared→Prop),
  bO A n→Hp h₀ f as s.heap σ→Vr op f as env s.heap ρ→
  (∀f' as' h' tk L4,dI h₀ op' env f as s.heap ρ' σ' f' as' h'→D9 f' as' fl L4→Q L4 {s with heap:=h',toks:=tk})→
  wpAny (model P0 w) A t Q E s
noncomputable def qO(w:World)(h₀:Heap)(n:Nat)(A:Around)(env:Env)(op op':Bool)(t:PySem.Sem Flow)(ev:St→Option (Fl×St)):Prop:=
 ∀(ρ:aB) (σ:ak) (fl:Fl) (ρ':aB) (σ':ak),ev (ρ,σ)=some (fl,(ρ',σ'))→AW w h₀ n A env op op' t ρ σ fl ρ' σ'
noncomputable def cR(w:World)(h₀:Heap)(n:Nat)(env:Env)(op op':Bool)(t:PySem.Sem Flow)(ev:St→Option (Fl×St)):Prop:=
 ∀(ρ:aB) (σ:ak) (fl:Fl) (ρ':aB) (σ':ak),ev (ρ,σ)=some (fl,(ρ',σ'))→∀A,AW w h₀ n A env op op' t ρ σ fl ρ' σ'
theorem cR.at(X:cR w h₀ n env op op' t ev)(A:Around):qO w h₀ n A env op op' t ev:=λρ σ a ρ' σ' e=>X ρ σ a ρ' σ' e A
section
variable{w:World}{h₀ h h' h1 h2:Heap}{f f' f1 f2:PM}{as lU nG:List (Addr×Addr)}{σ σ' σ1 σ2:ak}{A:Around}{E:Value→Shared→Prop}{s:Shared}{n:Nat}{env:Env}{op dU jD:Bool}{C:Mine.Sem}{ρ jw tL:aB}
theorem dI.refl(H:Hp h₀ f as h σ)(V:Vr op f as env h ρ):dI h₀ op env f as h ρ σ f as h:=⟨.refl ..,H,V,[],by simp,λa q=>nomatch q⟩
theorem dI.trans(a:dI h₀ dU env f as h jw σ1 f1 lU h1)(b:dI h₀ jD env f1 lU h1 tL σ2 f2 nG h2):dI h₀ jD env f as h tL σ2 f2 nG h2:=by
 refine ay a.grown λu j fr=>?_;subst j;refine ay b.grown λcs j t=>?_;subst j;have d:∀x o,h.get? x=some o→x∉as.map (λx=>x.2)++Env.adr env→x∉(as++u).map (λx=>x.2)++Env.adr env:=λx o e c q=>by
  refine Or.elim (List.mem_append.mp q) (λq=>?_) λq=>?_
  ·rw[List.map_append]at q;refine Or.elim (List.mem_append.mp q) (λq=>?_) λq=>?_
   ·exact c (List.mem_append_left _ q)
   ·refine ay (List.mem_map.mp q) λp k r=>?_;subst r;rw[fr p k]at e;exact no e
  ·exact c (List.mem_append_right _ q)
 refine⟨⟨a.step.le.trans b.step.le,λx o e c g=>b.step.keep x o (a.step.keep x o e c g) (d x o e c) g,λx o e=>?_⟩,b.hp,b.vr,u++cs,by simp,λp k=>?_⟩
 ·refine Or.elim (b.step.new x o e) (λq=>?_) λm=>Or.elim m (λq=>?_) λm=>Or.elim m (λq=>?_) λm=>Or.elim m (λq=>?_) λq=>?_
  ·exact a.step.new x o q
  ·cases z:h.get? x with
   |none=>exact .inr (.inl rfl)
   |some l=>
    by_cases c:x∈as.map (λx=>x.2)++Env.adr env
    ·exact .inr (.inr (.inl c))
    ·by_cases g:x∈cT
     ·exact .inr (.inr (.inr (.inr g)))
     ·have:=a.step.keep x l z c g;rw[q]at this;exact no this
  ·by_cases c:x∈as.map (λx=>x.2)++Env.adr env
   ·exact .inr (.inr (.inl c))
   ·cases z:h.get? x with
    |none=>exact .inr (.inl rfl)
    |some l=>exact absurd q (d x l z c)
  ·exact .inr (.inr (.inr (.inl q)))
  ·exact .inr (.inr (.inr (.inr q)))
 ·refine Or.elim (List.mem_append.mp k) (λk=>?_) λk=>?_
  ·exact fr p k
  ·have e:=t p k;cases z:h.get? p.2 with
   |none=>rfl
   |some o=>
    by_cases c:p.2∈as.map (λx=>x.2)++Env.adr env
    ·refine Or.elim (List.mem_append.mp c) (λc=>?_) λc=>?_
     ·refine ay (List.mem_map.mp c) λq y v=>?_;obtain⟨l,i⟩:=a.hp.has q (List.mem_append_left _ y);rw[v,e]at i;exact no i
     ·obtain⟨l,i⟩:=a.vr.has _ c;rw[e]at i;exact no i
    ·by_cases g:p.2∈cT
     ·obtain⟨l,i⟩:=a.hp.tabAt g;rw[e]at i;exact no i
     ·have:=a.step.keep _ o z c g;rw[e]at this;exact no this
theorem FN:∀b∈l++Env.qK env,b∈l++Env.adr env:=λa q=>(List.mem_append.mp q).elim (List.mem_append_left _) λz=>List.mem_append_right _ (List.mem_cons_of_mem _ z)
theorem dI.of(a:cH h₀ dU env f as h ρ σ' f' h'):dI h₀ dU env f as h ρ σ' f' as h':=⟨a.step.wide (λb q=>q) λb q=>q,a.hp,a.vr,[],by simp,λb q=>nomatch q⟩
theorem Vr.weak(a:jD=true→dU=true)(V:Vr dU f as env h ρ):Vr jD f as env h ρ:=⟨V.ok,V.vars,V.ns,V.cell,V.apart,V.tab,V.g7,λo=>V.jJ (a o),V.inj,V.ig⟩
theorem dI.weak(b:jD=true→dU=true)(a:dI h₀ dU env f as h jw σ1 f1 lU h1):dI h₀ jD env f as h jw σ1 f1 lU h1:=⟨a.step,a.hp,a.vr.weak b,a.grown⟩
theorem Vr.congr(V:Vr op f as env h ρ)(c:∀y x,jw.lookup y=some x→ρ.lookup y=some x):Vr op f as env h jw:=⟨V.ok,λx y e=>V.vars x y (c x y e),V.ns,V.cell,V.apart,V.tab,V.g7,V.jJ,V.inj,V.ig⟩
theorem aJ(j:aY w h₀ n env op dU e (aH C t)):vG w h₀ n env op dU e (wC C t):=by exactλρ σ v σ' c=>au c λx σ1 g c=>λA f as s Q E R H V q=>j ρ σ x σ1 g A f as s _ E R H V λf1 h1 b a d o1=>bG (d.hp.toD c o1) λf2 k i l=>q f2 h1 b a (d.trans (cH.of d.vr i k)) l
theorem fX(H:Hp h₀ f as s.heap σ)(j:Vr op f as env s.heap ρ)(hs:aG env op x)(g:jG f as v y)(u:Upd ρ x y jw)
  (q:∀h' tk,dI h₀ op env f as s.heap jw σ f as h'→Q () {s with heap:=h',toks:=tk}):wpAny (model P0 w) A (storeName env (nm x) v) Q E s:=
 rP H j hs g u λh' tk k l V'=>q h' tk ⟨⟨f.le_refl,λb o e i c=>(k b λz=>i (List.mem_append_right _ z)).trans e,λc c e=>.inl e⟩,l,V',[],by simp,λc z=>nomatch z⟩
theorem bB(j:vG w h₀ n env op dU value (wC C t))(hs:aG env dU x)(a:swapsWith value (some (.Name (nm x) pos')) pos.line env=pure false):
  cR w h₀ n env op dU (exec (.Assign [.Name (nm x) pos'] value pos) env) (fZ C (.asg x t)):=by
 refineλρ σ k ρ' σ' e=>au e λd σ1 g e=>three e ?_;refineλA f as s Q E R H V q=>wpAny_Assign_Name (j ρ σ d _ g A f as s _ E R H V λf1 h1 c v b o1=>?_) a;exact fX (y:=.d d) b.hp b.vr hs o1 gp λh' tk i=>q f1 as h' tk _ ((dI.of b).trans i) .next
theorem fj(v:qP w h₀ n env op (eval value env) (fK C t))(hs:aG env op x)(b:swapsWith value (some (.Name (nm x) pos')) pos.line env=pure false):
  cR w h₀ n env op op (exec (.Assign [.Name (nm x) pos'] value pos) env) (fZ C (.qh x t)):=by
 refineλρ σ z ρ' σ' e=>au e λc σ1 m e=>three e ?_;refineλA f as s Q E R H V q=>wpAny_Assign_Name (v ρ σ c _ m A f as s _ E R H V λf1 h1 j p o d g l=>?_) b;have a:as.length=σ1.length:=by have:=d.len;simp only[List.length_append]at this;exact mW this
 have u:dI h₀ op env f as s.heap ρ (σ1++[c]) f1 (as++[p]) h1:=⟨o.wide (λi q=>q) λi q=>q,d,g,[p],rfl,λq k=>rl (List.mem_singleton.mp k) l⟩;exact fX (y:=.loc σ1.length) d g hs ⟨p,by refine rr a ?_;simp,rfl⟩ gp λh' tk r=>q f1 _ h' tk _ (u.trans r) .next
theorem aA(c:aY w h₀ n env op dU value (aH C t)):cR w h₀ n env op dU (exec (.Return (some value) pos) env) (fZ C (.ret t)):=λρ σ g ρ' σ' e=>au e λv σ1 b e=>three e (λA f as s Q E R H V q=>wpAny_Return_some (c ρ σ v _ b A f as s _ E R H V λf1 h1 a v d o1=>q f1 as h1 a _ (dI.of d) (.ret o1)))
theorem Ab(r:qP w h₀ n env op (eval value env) (fK C t)):cR w h₀ n env op op (exec (.Return (some value) pos) env) (fZ C (.GJ t)):=by
 refineλρ σ v ρ' σ' e=>au e λc σ1 l e=>three e ?_;refineλA f as s Q E R H V q=>wpAny_Return_some (r ρ σ c _ l A f as s _ E R H V λf1 h1 b p o g m k=>?_);have d:as.length=σ1.length:=by have:=g.len;simp only[List.length_append]at this;exact mW this
 exact q f1 (as++[p]) h1 b _ ⟨o.wide (λi q=>q) λi q=>q,g,m,[p],rfl,λq j=>rl (List.mem_singleton.mp j) k⟩ (.ret ⟨p,by refine rr d ?_;simp,rfl⟩)
theorem ah:cR w h₀ n env op op (execs [] env) (cu C .nil):=λρ σ a ρ' σ' e=>three e (λA f as s Q E R H V q=>wpAny_execs_nil (q f as s.heap s.toks _ (.refl H V) .next))
set_option tactic.hygienic true in
theorem dZ{st:Stmt}(g:jD=true→dU=true)(k:qO w h₀ n A env op dU (exec st env) RK)(r:qO w h₀ n A env dU jD (execs l env) RL):
  qO w h₀ n A env op jD (execs (st::l) env) (λst=>b2 (RK st) λf st'=>f.on st' (RL st')):=by
 refineλρ σ m ρ' σ' e=>au e λf1 st' j e=>?_;cases f1 with
 |next=>exactλf as s Q E R H V q=>wpAny_execs_cons (k ρ σ _ st'.1 st'.2 j f as s _ E R H V λf1 lU h1 a b d o1=>by
   cases o1;exact r st'.1 st'.2 m ρ' σ' e f1 lU {s with heap:=h1,toks:=a} Q E R d.hp d.vr λf2 nG h2 i c p o2=>q f2 nG h2 i c (d.trans p) o2)
 |cont=>exact three e λf as s Q E R H V q=>wpAny_execs_cons (k ρ σ _ st'.1 st'.2 j f as s _ E R H V λf1 lU h1 a b d o1=>by cases o1;exact q f1 lU h1 a _ (d.weak g) .cont)
 |ret v=>exact three e λf as s Q E R H V q=>wpAny_execs_cons (k ρ σ _ st'.1 st'.2 j f as s _ E R H V λf1 lU h1 a b d o1=>by cases o1 with |ret o=>exact q f1 lU h1 a _ (d.weak g) (.ret o))
theorem ae{st:Stmt}(a:jD=true→dU=true)(d:cR w h₀ n env op dU (exec st env) (fZ C t))(c:cR w h₀ n env dU jD (execs l env) (cu C ts)):
  cR w h₀ n env op jD (execs (st::l) env) (cu C (.cons t ts)):=λρ σ b ρ' σ' e A=>dZ a (d.at A) (c.at A) ρ σ b ρ' σ' e
theorem bh(m:mU w h₀ n env op dU test (λρ σ=>lV (aH C tt ρ σ)))(p:cR w h₀ n env dU jD (execs a env) (cu C ta))(o:cR w h₀ n env dU jD (execs b env) (cu C tb)):
  cR w h₀ n env op jD (exec (.If test a b pos) env) (fZ C (.i6 tt ta tb)):=by
 refineλρ σ k ρ' σ' e=>au e λb σ1 l e=>?_;cases b with
 |true=>exactλA f as s Q E R H V q=>wpAny_If (m ρ σ true σ1 l A f as s _ E R H V λf1 h1 g i=>mE (p ρ σ1 k ρ' σ' e A f1 as {s with heap:=h1,toks:=g} Q E R i.hp i.vr λf2 nG h2 d c j o2=>q f2 nG h2 d c ((dI.of i).trans j) o2))
 |false=>exactλA f as s Q E R H V q=>wpAny_If (m ρ σ false σ1 l A f as s _ E R H V λf1 h1 g i=>mD (o ρ σ1 k ρ' σ' e A f1 as {s with heap:=h1,toks:=g} Q E R i.hp i.vr λf2 nG h2 d c j o2=>q f2 nG h2 d c ((dI.of i).trans j) o2))
theorem rJ:cR w h₀ n env op op (exec (.Continue pos) env) (fZ C .cont):=λρ σ a ρ' σ' e=>three e (λA f as s Q E R H V q=>wpAny_bind (wpAny_standAt (wpAny_pure (q f as s.heap s.toks _ (.refl H V) .cont))))
end
theorem iy{v:V}:∀{ρ:aB},(e9 ρ x v).lookup y=if y=x then some v else ρ.lookup y
 |[]=>by
  dsimp only[e9,List.lookup_cons,List.lookup_nil];by_cases h:y=x
  ·subst h;simp
  ·rw[if_neg h,show(y==x)=false from beq_eq_false_iff_ne.mpr h]
 |(k,u)::r=>by
  unfold e9;by_cases a:k=x
  ·subst a;simp only[decide_true,List.lookup_cons];by_cases h:y=k
   ·subst h;simp
   ·rw[if_neg h,show(y==k)=false from beq_eq_false_iff_ne.mpr h]
  ·simp only[decide_eq_false a,List.lookup_cons];by_cases h:y=k
   ·subst h;simp[a]
   ·exact rl (beq_eq_false_iff_ne.mpr h) iy
noncomputable abbrev qZ(ρ:aB)(l:List (Nat×V)):aB:=l.foldl (λρ p=>e9 ρ p.1 p.2) ρ
theorem j0:∀{l:List (Nat×V)} {ρ:aB},y∉l.map (λx=>x.1)→(qZ ρ l).lookup y=ρ.lookup y
 |[],_,_=>rfl
 |p::l,ρ,h=>by rw[List.map_cons,List.mem_cons,not_or]at h;show(qZ (e9 ρ p.1 p.2) l).lookup y=_;rw[j0 h.2,iy,if_neg h.1]
theorem tq:∀{l:List (Nat×V)} {ρ:aB},(l.map (λx=>x.1)).Nodup→p∈l→(qZ ρ l).lookup p.1=some p.2
 |q::l,ρ,a,h=>by
  rw[List.map_cons,List.nodup_cons]at a;show(qZ (e9 ρ q.1 q.2) l).lookup p.1=_;refine Or.elim (List.mem_cons.mp h) (λb=>?_) λh=>?_
  ·subst b;rw[j0 a.1,iy,if_pos rfl]
  ·exact tq a.2 h
theorem Dd(b:(l.map (λx=>x.1)).Nodup){y:Nat}(e:(qZ ρ l).lookup y=some x):(qZ ρ l.reverse).lookup y=some x:=by
 refine(Classical.em (y∈l.map (λx=>x.1))).elim (λh=>?_) λh=>?_
 ·refine ay (List.mem_map.mp h) λp c a=>?_;subst a;rw[tq b c]at e;exact one e (tq (rl List.map_reverse (List.pairwise_reverse.mpr (b.imp Ne.symm))) (List.mem_reverse.mpr c))
 ·rw[j0 h]at e;refine rl (j0 (by refine rl List.map_reverse ?_;exactλz=>h (List.mem_reverse.mp z))) ?_;exact e
noncomputable def OO(env:Env)(x:Nat)(t:Value→PySem.Sem Unit):Prop:=∀(M:Model) (A:Around) (Q:Unit→Shared→Prop) (E:Value→Shared→Prop) (s:Shared) (v:Value),wpAny M A (storeName env (nm x) v) Q E s→wpAny M A (t v) Q E s
inductive qQ(env:Env):List Nat→List (Value→PySem.Sem Unit)→Prop
 |nil:qQ env [] []
 |cons {x:Nat} {t:Value→PySem.Sem Unit} {xs:List Nat} {ts:List (Value→PySem.Sem Unit)}:OO env x t→qQ env xs ts→qQ env (x::xs) (t::ts)
section
variable{w:World}{h₀ h h' h1 h2:Heap}{f f' f1 f2:PM}{as lU nG:List (Addr×Addr)}{σ σ' σ1 σ2:ak}{A:Around}{E:Value→Shared→Prop}{s:Shared}{n:Nat}{env:Env}{op dU jD:Bool}{C:Mine.Sem}{ρ jw tL:aB}
theorem aK:OO env x (assign (.Name (nm x) pos) env):=λa a a a a a h=>wpAny_assign_Name h
theorem DS:OO env x (λv=>bindName env (nm x) v):=λa a a a a a h=>bindName_ h
theorem rQ:∀{xs:List Nat},qQ env xs (xs.map λx=>bindName env (nm x))
 |[]=>.nil
 |x::xs=>.cons DS rQ
theorem kP(T:qQ env xs g):∀{vs:List Value} {b:List V} {ρ:aB} {s:Shared} {Q:Unit→Shared→Prop},(∀x∈xs,aG env op x)→cV f as vs b→xs.length=b.length→Hp h₀ f as s.heap σ→Vr op f as env s.heap ρ→
  (∀h' tk,dI h₀ op env f as s.heap (qZ ρ (xs.zip b)) σ f as h'→Q () {s with heap:=h',toks:=tk})→wpAny (model P0 w) A (assignInOrder g vs) Q E s:=by
 induction T with
 |nil=>
  intro vs b ρ s Q hs o c H V q;cases b with
  |cons _ _=>simp at c
  |nil=>cases o;exact wpAny_pure (q s.heap s.toks (.refl H V))
 |@cons x t xs g i T k=>
  intro vs b ρ s Q hs o c H V q;cases o with
  |nil=>simp at c
  |@cons v y vs b a r=>refine wpAny_bind (wpAny_holding (i _ _ _ _ _ _ (fX H V (hs x (.head _)) a gp λh1 j e=>?_)));exact k (λz l=>hs z (.tail _ l)) r (by simpa using c) e.hp e.vr λh2 d m=>q h2 d (e.trans m)
theorem cV.reverse:∀{vs:List Value} {c:List V},cV f as vs c→cV f as vs.reverse c.reverse:=by
 have g:∀{vs ws:List Value} {c d:List V},cV f as vs c→cV f as ws d→cV f as (vs++ws) (c++d):=by
  intro vs ws c d a b;induction a with
  |nil=>exact b
  |cons x r e=>exact .cons x e
 intro vs c a;induction a with
 |nil=>exact .nil
 |cons x r e=>refine rl List.reverse_cons (rl List.reverse_cons ?_);exact g e (.cons x .nil)
theorem cV.of:∀{vs:List Value} {ds:List D},bQ f vs ds→cV f as vs (ds.map V.d)
 |_,_,.nil=>.nil
 |_,_,.cons a r=>.cons a (.of r)
theorem yQ{α b:Type}:∀{xs:List α} {a:List b},xs.length=a.length→xs.reverse.zip a.reverse=(xs.zip a).reverse
 |[],[],_=>rfl
 |x::xs,y::a,h=>by
  have h':xs.length=a.length:=by simpa using h
  refine rl (show(x::xs).zip (y::a)=(x,y)::xs.zip a from rfl) (rl List.reverse_cons ?_);refine rl List.reverse_cons (rl List.reverse_cons ?_);refine rl (List.zip_append (by simpa using h')) (rl (yQ h') ?_);rfl
 |[],_::_,h=>by simp at h
 |_::_,[],h=>by simp at h
noncomputable def MW(w:World)(h₀:Heap)(n:Nat)(env:Env)(op:Bool)(l:List Expr)(ρ:aB)(σ:ak)(xs:List V)(σ':ak):Prop:=
 ∀(pos:Pos) (A:Around) (f:PM) (as:List (Addr×Addr)) (s:Shared) (Q:List Value→Shared→Prop) (E:Value→Shared→Prop),
  bO A n→Hp h₀ f as s.heap σ→Vr op f as env s.heap ρ→(∀f' as' h' tk vs,dI h₀ op env f as s.heap ρ σ' f' as' h'→cV f' as' vs xs→Q vs {s with heap:=h',toks:=tk})→
  wpAny (model P0 w) A (spliced (backTo pos (starEach l env))) Q E s
noncomputable def vI(w:World)(h₀:Heap)(n:Nat)(env:Env)(op:Bool)(l:List Expr)(ev:aB→ak→Option (List V×ak)):Prop:=
 ∀(ρ:aB) (σ:ak) (xs:List V) (σ':ak),ev ρ σ=some (xs,σ')→MW w h₀ n env op l ρ σ xs σ'
theorem eK:vI w h₀ n env op [] (gi C [] .nil):=λρ σ v σ' e=>two e (λpos A f as s Q E R H V q=>spliced_nil (q f as s.heap s.toks [] (.refl H V) .nil))
theorem c5(k:starEach (a::l) env=(false,eval a env)::starEach l env)(r:vG w h₀ n env op op a (wC C ta))(p:vI w h₀ n env op l (gi C ms tl)):
  vI w h₀ n env op (a::l) (gi C (false::ms) (.cons ta tl)):=by
 refineλρ σ v σ' e=>au e λd σ1 o e=>au e λxs σ2 m e=>two e ?_;refineλpos A f as s Q E R H V q=>rl (show backTo pos (starEach (a::l) env)=(false,eval a env)::backTo pos (starEach l env) by refine rl k ?_;rfl) ?_;refine spliced_cons (r ρ σ d σ1 o A f as s _ E R H V λf1 h1 g v i o1=>p ρ σ1 xs _ m pos A f1 as {s with heap:=h1,toks:=g} _ E R i.hp i.vr λf2 nG h2 c vs j o2=>q f2 nG h2 c (v::vs) ((dI.of i).trans j) (.cons ?_ o2));exact bP.mono j.step.le o1
theorem tG(t:starEach (a::l) env=(false,eval a env)::starEach l env)(F:qP w h₀ n env op (eval a env) (fK C ta))(D:vI w h₀ n env op l (gi C ms tl)):
  vI w h₀ n env op (a::l) (gi C (true::ms) (.cons ta tl)):=by
 refineλρ σ v σ' e=>au e λc σ1 y e=>au e λxs σ2 x e=>two e ?_;refineλpos A f as s Q E R H V q=>rl (show backTo pos (starEach (a::l) env)=(false,eval a env)::backTo pos (starEach l env) by refine rl t ?_;rfl) ?_;refine spliced_cons (F ρ σ c σ1 y A f as s _ E R H V λf1 h1 j p z b m u=>?_);have k:as.length=σ1.length:=by have:=b.len;simp only[List.length_append]at this;exact mW this
 have B:dI h₀ op env f as s.heap ρ (σ1++[c]) f1 (as++[p]) h1:=⟨z.wide (λg q=>q) λg q=>q,b,m,[p],rfl,λq G=>rl (List.mem_singleton.mp G) u⟩;refine D ρ (σ1++[c]) xs _ x pos A f1 (as++[p]) {s with heap:=h1,toks:=j} _ E R b m λf2 nG h2 i vs o o2=>q f2 nG h2 i (.ref p.1::vs) (B.trans o) (.cons ?_ o2);refine ay o.grown λI d g=>?_;clear t F D y x e R H V q z b m u B o o2 g;subst d;exact⟨p,by refine rr k (rl (List.getElem?_append_left (by simp)) ?_);simp,rfl⟩
theorem dI.keeps(H:Hp h₀ f as h σ)(V:Vr op f as env h ρ)(k:∀b o,h.get? b=some o→h'.get? b=some o):dI h₀ op env f as h ρ σ f as h':=
 ⟨Step.keeps k,H.keeps k,V.step0 (Step.keeps k),[],by simp,λa q=>nomatch q⟩
theorem ku(x:Heap.ExtBut h.objs.size h h'):∀b o,h.get? b=some o→h'.get? b=some o:=λb o e=>x b o (Nat.ne_of_lt (Heap.lt_size e)) e
theorem tK{α b:Type}:∀{xs:List α} {a:List b},xs.length=a.length→(xs.zip a).map (λx=>x.1)=xs
 |[],[],_=>rfl
 |x::xs,y::a,h=>by simp only[show(x::xs).zip (y::a)=(x,y)::xs.zip a from rfl,List.map_cons,tK (by simpa using h)]
 |[],_::_,h=>by simp at h
 |_::_,[],h=>by simp at h
theorem c6(N:vI w h₀ n env op vals (gi C ms tl))(o:∀x∈xs,aG env op x)(D:xs.Nodup)
  (hs:swapsWithSole [.Tuple elts k tpos] (.Tuple vals k2 tJ) pos.line env=pure false)(I:swappedStores [.Tuple elts k tpos] (.Tuple vals k2 tJ) env=pure (some (xs.map nm)))(m:xs.length≤1000):
  cR w h₀ n env op op (exec (.Assign [.Tuple elts k tpos] (.Tuple vals k2 tJ) pos) env) (fZ C (.lW xs ms tl)):=by
 refineλρ σ O ρ' σ' e=>au e λz σ1 M e=>aS e λK e=>?_;have c:=of_decide_eq_true K;refine three e ?_;refineλA f as s Q E R H V q=>Assign_Tuple_swapped (wpAny_Tuple_spliced (N ρ σ z _ M tJ A f as s _ E R H V λf1 lU h1 l vs t o1=>⟨by simp only[o1.length,c];exact AS m,?_⟩)) hs I;have F:∀b o',h1.get? b=some o'→(h1.push (jB vs 0)).get? b=some o':=λb o' e=>Heap.get?_push_of_some _ e;have r:=t.trans (dI.keeps t.hp t.vr F);have J:(h1.push (jB vs 0)).IsTuple h1.objs.size vs.toArray:=⟨_,Heap.get?_push_size _ rfl,rfl,0,rfl⟩;rw[List.length_map,show xs.length=vs.toArray.size by refine rr c (rr o1.length ?_);rfl];refine wpAny_unpackItems_tuple R.hd J λh2 B=>?_;have p:=r.trans (dI.keeps r.hp r.vr (ku B));have T:qQ env xs.reverse ((xs.map nm).reverse.map λn=>bindName env n):=by have:=rQ (env:=env) (xs:=xs.reverse);refine rr List.map_reverse (rl List.map_map ?_);exact this
 refine kP (s:={s with heap:=h2,toks:=l}) T (λx G=>o x (List.mem_reverse.mp G)) (vs:=vs.reverse) o1.reverse (by simp[c]) p.hp p.vr λL j v=>?_;rw[yQ c.symm]at v;have i:=p.trans v;refine q f1 lU L j _ ⟨i.step,i.hp,i.vr.congr λy x e=>?_,i.grown⟩ .next
 exact Dd (rl (tK c.symm) D) e
theorem kN{elts a:List Expr}{k o:Nat}(N:vI w h₀ n env op a (gi C ms tl))(r:∀x∈xs,aG env op x)
  (hs:swapsWithSole [.Tuple elts k tpos] (.Tuple a o tJ) pos.line env=pure false)(D:swappedStores [.Tuple elts k tpos] (.Tuple a o tJ) env=pure none)(p:xs.length≤1000)
  (J:qQ env xs ((assignEach elts env).map (λx=>x.2)))(G:(assignEach elts env).length=xs.length)(d:(assignEach elts env).findIdx? (λx=>x.1)=none):
  cR w h₀ n env op op (exec (.Assign [.Tuple elts k tpos] (.Tuple a o tJ) pos) env) (fZ C (.lW xs ms tl)):=by
 refineλρ σ O ρ' σ' e=>au e λy σ1 L e=>aS e λI e=>?_;have g:=of_decide_eq_true I;refine three e ?_;refineλA f as s Q E R H V q=>Assign_Tuple (wpAny_Tuple_spliced (N ρ σ y _ L tJ A f as s _ E R H V λf1 lU h1 i vs v o1=>⟨by refine rl o1.length ?_;refine rl g ?_;refine rl sizeLine_eq ?_;exact AS p,?_⟩)) hs D;have B:∀b o',h1.get? b=some o'→(h1.push (jB vs 0)).get? b=some o':=λb o' e=>Heap.get?_push_of_some _ e;have u:=v.trans (dI.keeps v.hp v.vr B);have F:(h1.push (jB vs 0)).IsTuple h1.objs.size vs.toArray:=⟨_,Heap.get?_push_size _ rfl,rfl,0,rfl⟩;refine PySem.wpAny_assign_Tuple (s:={s with heap:=h1.push (jB vs 0),toks:=i}) R.hd F (by refine rl G ?_;refine rr g ?_;refine rr o1.length ?_;rfl) d λh2 z=>?_;have t:=u.trans (dI.keeps u.hp u.vr (ku z));exact kP (s:={s with heap:=h2,toks:=i}) J r (vs:=vs) o1 g.symm t.hp t.vr λK l M=>q f1 lU K l _ (t.trans M) .next
set_option tactic.hygienic true in
theorem lq{xs:List Nat}(e:cD xs x ρ=some ρ')(g:∀y,xs≠[y]):∃l,(x= .tup l∨x= .lst l)∧l.length=xs.length∧ρ'=qZ ρ (xs.zip (l.map V.d)):=by
 have a:∀(xs:List Nat) (l:List D) (ρ:aB),(xs.zip l).foldl (λρ p=>e9 ρ p.1 (.d p.2)) ρ=qZ ρ (xs.zip (l.map V.d)):=by
  intro xs;induction xs with
  |nil=>intro l ρ;rfl
  |cons x xs c=>
   intro l ρ;cases l with
   |nil=>rfl
   |cons d l=>exact c l _
 unfold cD at e;split at e
 ·exact absurd rfl (g _)
 ·split at e
  ·rename_i l;split at e
   ·rename_i b;exact one e (⟨l,.inl rfl,of_decide_eq_true b,a _ _ _⟩)
   ·exact no e
  ·rename_i l;split at e
   ·rename_i b;exact one e (⟨l,.inr rfl,of_decide_eq_true b,a _ _ _⟩)
   ·exact no e
  ·exact no e
noncomputable def nF(f:PM)(h:Heap)(v:Value)(l:List D):Prop:=∃t vs,v= .ref t∧bQ f vs l∧(h.IsTuple t vs.toArray∨h.IsList t vs.toArray)
theorem nF.of(F:f.on h){l:List D}(b:bP f v x)(e:x= .tup l∨x= .lst l):nF f h v l:=by
 rcases e with rfl|rfl
 ·cases b with
  |tup a r=>exact⟨_,_,rfl,r,.inl ⟨_,F _ _ a,rfl,_,rfl⟩⟩
 ·cases b with
  |lst a r=>exact⟨_,_,rfl,r,.inr ⟨_,F _ _ a,rfl,_,rfl⟩⟩
theorem lX(R:bO A n)(H:Hp h₀ f as s.heap σ)(z:Vr op f as env s.heap ρ)(P:nF f s.heap v l)(e:l.length=xs.length)(d:∀x∈xs,aG env op x)
  (y:qQ env xs ((assignEach elts env).map (λx=>x.2)))(u:(assignEach elts env).length=xs.length)(a:(assignEach elts env).findIdx? (λx=>x.1)=none)
  (q:∀h' tk,dI h₀ op env f as s.heap (qZ ρ (xs.zip (l.map V.d))) σ f as h'→Q () {s with heap:=h',toks:=tk}):wpAny (model P0 w) A (assign (.Tuple elts k tpos) env v) Q E s:=by
 refine fP P λt vs i r g=>?_;clear P;subst i;obtain m|m:=g
 ·refine PySem.wpAny_assign_Tuple R.hd m (by rw[u,←e,←r.length];simp) a λh2 j=>?_;have c:=dI.keeps H z (ku j);exact kP y d (vs:=vs) (.of r) (by simp[e]) c.hp c.vr λo b p=>q o b (c.trans p)
 ·rw[assign_Tuple];refine wpAny_bind (wpAny_standAt ?_);unfold unpack;refine rl (show(assignEach elts env).length=vs.toArray.size by rw[u,←e,←r.length];simp) ?_;refine rl a ?_;refine wpAny_bind (wpAny_holding (kun_itemsOf R.hd m λh2 j=>?_));have c:=dI.keeps H z (ku j);exact kP y d (vs:=vs) (.of r) (by simp[e]) c.hp c.vr λo b p=>q o b (c.trans p)
theorem kM(F:vG w h₀ n env op op value (wC C t))(g:∀x∈xs,aG env op x)(i:∀y,xs≠[y])
  (hs:swapsWithSole [.Tuple elts k tpos] value pos.line env=pure false)(o:swappedStores [.Tuple elts k tpos] value env=pure none)
  (z:qQ env xs ((assignEach elts env).map (λx=>x.2)))(p:(assignEach elts env).length=xs.length)(a:(assignEach elts env).findIdx? (λx=>x.1)=none):
  cR w h₀ n env op op (exec (.Assign [.Tuple elts k tpos] value pos) env) (fZ C (.v5 xs t)):=by
 refineλρ σ G ρ' σ' e=>au e λd σ1 B e=>az e λjw j e=>three e ?_;refineλA f as s Q E R H V q=>bG (lq j i) λl u r c=>?_;clear i j e;subst c;refine Assign_Tuple (F ρ σ d _ B A f as s _ E R H V λf1 h1 m v b o1=>?_) hs o;exact lX R b.hp b.vr (nF.of b.hp.on o1 u) r g z p a λh' tk D=>q f1 as h' tk _ ((dI.of b).trans D) .next
end
structure dG(f:PM)(as:List (Addr×Addr))(env:Env)(h:Heap)(b:Addr):Prop where
 off:f b=none
 at_:∃o,h.get? b=some o
 as:b∉as.map (λx=>x.2)
 adr:b∉Env.adr env
 tab:b∉cT
section
variable{w:World}{h₀ h h' h1 h2 hp:Heap}{f f' f1 f2:PM}{as lU nG:List (Addr×Addr)}{σ σ' σ1 σ2:ak}{A:Around}{E:Value→Shared→Prop}{s:Shared}{n:Nat}{env:Env}{op dU jD:Bool}{C:Mine.Sem}{ρ jw tL:aB}{wr:List Addr}
theorem dG.of(H:Hp h₀ f as h σ)(V:Vr op f as env h ρ)(e:h.get? b=none)(d:∃o,h'.get? b=some o):dG f as env h' b:=
 ⟨(H.off e).1,d,(λq=>by refine ay (List.mem_map.mp q) λp hp a=>?_;clear d q;subst a;refine aT (H.has p hp) λo c=>?_;rw[e]at c;exact no c),V.off e,(H.off e).2.2⟩
theorem dG.GH(F:dG f as env h b)(R:dI h₀ op env f as h jw σ1 f1 lU h1):dG f1 lU env h1 b∧h1.get? b=h.get? b:=by
 refine aT F.at_ λo c=>?_;have g:b∉as.map (λx=>x.2)++Env.adr env:=λq=>(List.mem_append.mp q).elim F.as F.adr;have k:=R.step.keep b o c g F.tab;refine⟨⟨?_,⟨o,k⟩,?_,F.adr,F.tab⟩,k.trans c.symm⟩
 ·cases z:f1 b with
  |none=>rfl
  |some i=>
   refine Or.elim (R.step.new b i z) (λq=>?_) λa=>Or.elim a (λq=>?_) λa=>Or.elim a (λq=>?_) λa=>Or.elim a (λq=>?_) λq=>?_
   ·rw[F.off]at q;exact no q
   ·rw[c]at q;exact on q
   ·exact absurd q g
   ·exact absurd (List.mem_cons_of_mem _ q) F.adr
   ·exact absurd q F.tab
 ·refine ay R.grown λj e fr=>?_;clear R g k;subst e;refine rl List.map_append ?_;refineλq=>Or.elim (List.mem_append.mp q) (λq=>?_) λq=>?_
  ·exact F.as q
  ·refine ay (List.mem_map.mp q) λp hp d=>?_;clear F q;clear q;subst d;rw[fr p hp]at c;exact no c
theorem Hp.free(H:Hp h₀ f as h σ)(k:∀b o,b∉wr→h.get? b=some o→h'.get? b=some o)(F:∀b∈wr,dG f as env h b):Hp h₀ f as h' σ:=H.go λb q=>by
 have c:b∉wr:=λz=>by
  rcases q with⟨o,e⟩|⟨p,hp,rfl⟩|q
  ·rw[(F b z).off]at e;exact no e
  ·exact(F _ z).as (List.mem_map.mpr ⟨p,hp,rfl⟩)
  ·exact(F b z).tab q
 have a:∃o,h.get? b=some o:=by
  rcases q with⟨o,e⟩|⟨p,hp,rfl⟩|q
  ·exact⟨o,H.on _ _ e⟩
  ·exact H.has p hp
  ·exact H.tabAt q
 obtain⟨o,e⟩:=a;refine rl e (rl (k b o c e) ?_);rfl
theorem Vr.go(V:Vr op f as env h ρ)(k:∀a∈Env.adr env,∀o,h.get? a=some o→h'.get? a=some o):Vr op f as env h' ρ:=
 ⟨V.ok,λx y e=>let⟨l,v,b,o⟩:=V.vars x y e;⟨l,v,b.step k,o⟩,let⟨m,N⟩:=V.ns;⟨m,Heap.Ns.at' N (k _ (List.mem_cons_self ..))⟩,λp hp=>let⟨w,c⟩:=V.cell p hp;⟨w,Heap.IsCell.at c (k _ (List.mem_cons_of_mem _ (List.mem_map.mpr ⟨p,hp,rfl⟩)))⟩,
  V.apart,V.tab,V.g7,V.jJ,V.inj,V.ig⟩
theorem dI.free(R:dI h₀ op env f as hp jw σ1 f1 lU h1)(k:∀b o,b∉wr→h1.get? b=some o→h'.get? b=some o)(F:∀b∈wr,dG f1 lU env h1 b)(c:∀b∈wr,hp.get? b=none):dI h₀ op env f as hp jw σ1 f1 lU h':=
 ⟨⟨R.step.le,λb o e g d=>k b o (λz=>by rw[c b z]at e;exact no e) (R.step.keep b o e g d),R.step.new⟩,R.hp.free k F,R.vr.go λa i o e=>k a o (λz=>(F a z).adr i) e,R.grown⟩
structure Src(w:World)(A:Around)(target:Expr)(pl:Bool)(f:PM)(ds:List D)(I:Addr)(fp wr:List Addr)(P Md:Nat→Value→Heap→Prop)(St:Nat→Heap→Prop)(fr:List Addr:=[]):Prop where
 turns:KTurns P0 w A target I fp wr ds.length P Md St
 stands:∀i h,St i h→∀b∈wr,∃o,h.get? b=some o
 self:∀i (s:Shared) (Q:Value→Shared→Prop) (E:Value→Shared→Prop),St i s.heap→Q (.ref I) s→wpAny (model P0 w) A (pyIter (.ref I)) Q E s
 known:∀b∈fp,b∈wr∨(∃o,f b=some o)∨b∈fr
 item:∀i v h' f' d,P i v h'→f.le f'→f'.on h'→ds[i]? =some d→bP f' v d∨(pl=false∧∃l,d= .tup l∧nF f' h' v l)
noncomputable def lT(w:World)(h₀:Heap)(n:Nat)(env:Env)(op:Bool)(pl:Bool)(xs:List Nat)(target:Expr):Prop:=
 ∀(A:Around) (f:PM) (as:List (Addr×Addr)) (σ:ak) (ρ ρ':aB) (s:Shared) (v:Value) (d:D) (Q:Unit→Shared→Prop) (E:Value→Shared→Prop),bO A n→Hp h₀ f as s.heap σ→Vr op f as env s.heap ρ→cD xs d ρ=some ρ'→
  (bP f v d∨(pl=false∧∃l,d= .tup l∧nF f s.heap v l))→(∀h' tk,dI h₀ op env f as s.heap ρ' σ f as h'→Q () {s with heap:=h',toks:=tk})→wpAny (model P0 w) A (assign target env v) Q E s
theorem a8(hs:aG env op x):lT w h₀ n env op true [x] (.Name (nm x) pos):=by
 refineλA f as σ ρ ρ' s v d Q E R H V e a q=>Or.elim a (λa=>?_) λb=>?_
 ·dsimp only[cD]at e
  (revert q;refine one e ?_;intro q)
  exact wpAny_assign_Name (fX (y:=.d d) H V hs a gp λh' tk c=>q h' tk c)
 ·obtain⟨z,_⟩:=b;exact tf z
theorem cf(g:∀x∈xs,aG env op x)(j:∀y,xs≠[y])(p:qQ env xs ((assignEach elts env).map (λx=>x.2)))(m:(assignEach elts env).length=xs.length)(a:(assignEach elts env).findIdx? (λx=>x.1)=none):
  lT w h₀ n env op pl xs (.Tuple elts k tpos):=by
 refineλA f as σ ρ ρ' s v d Q E R H V e i q=>bG (lq e j) λl b o c=>?_;clear j e;subst c;have P:nF f s.heap v l:=by
  rcases i with i|⟨_,r,rfl,P⟩
  ·exact nF.of H.on i b
  ·rcases b with b|b<;>cases b
   exact P
 exact lX R H V P o g p m a q
set_option tactic.hygienic true in
theorem Ck{ds:List D}{st:St}(e:m9 xs body (ds.drop i) st=some r)(a:i<ds.length):
  ∃d ρ' fl st',ds[i]? =some d∧cD xs d st.1=some ρ'∧body (ρ',st.2)=some (fl,st')∧((∃v,fl= .ret v∧r=(.ret v,st'))∨((fl= .next∨fl= .cont)∧m9 xs body (ds.drop (i+1)) st'=some r)):=by
 rw[List.drop_eq_getElem_cons a]at e;refine⟨ds[i],az e λρ' c e=>au e λfl st' b e=>?_⟩;cases fl with
 |ret v=>exact one e ⟨ρ',_,st',List.getElem?_eq_getElem a,c,b,.inl ⟨_,rfl,rfl⟩⟩
 |next=>exact⟨ρ',_,st',List.getElem?_eq_getElem a,c,b,.inr ⟨.inl rfl,e⟩⟩
 |cont=>exact(h9 ρ' _ st' ⟨List.getElem?_eq_getElem a,c,b,.inr ⟨.inr rfl,e⟩⟩)
theorem Cm{target:Expr}{pl:Bool}{ds:List D}{I:Addr}{U:Nat→Heap→Prop}{ρ':aB}{σ':ak}
  (S:Src w A target pl f ds I fp wr P Md U)(T:lT w h₀ n env op pl xs target)(Hb:cR w h₀ n env op op (execs body env) (cu C tb))(W:bO A n)
  (H:Hp h₀ f as hp σ)(V:Vr op f as env hp ρ)(kp:∀b o,hp.get? b=some o→s.heap.get? b=some o)(n0:∀b∈wr,hp.get? b=none)(j:U 0 s.heap)(e:m9 xs (λst=>cu C tb st) ds (ρ,σ)=some (fl,(ρ',σ')))
  (q:∀f' as' h' tk,dI h₀ op env f as hp ρ' σ' f' as' h'→match fl with | .ret x=>∀v,jG f' as' v x→R (.ok (.ret v)) {s with heap:=h',toks:=tk}|_=>R (.ok .next) {s with heap:=h',toks:=tk}):
  codeAny (model P0 w) A (.forLoop target (.ref I) body [] env) R s:=by
 refine codeAny_forLoop_any
  (λk s'=>∃jo qL fi vA hi vC,∃i:Nat,s'={s with heap:=hi,toks:=vC}∧dI h₀ op env f as hp jo qL fi vA hi∧(∀b∈wr,dG fi vA env hi b)∧U i hi∧i≤ds.length∧k=ds.length+1-i∧m9 xs (λst=>cu C tb st) (ds.drop i) (jo,qL)=some (fl,(ρ',σ')))
  ?_ (ds.length+1) (OL ρ σ f as s.heap s.toks 0 ⟨rfl,dI.keeps H V kp,λb a=>dG.of H V (n0 b a) (S.stands 0 _ j b a),j,Nat.zero_le _,rfl,e⟩)
 intro k s' G;refine OI G λjo qL fi vA hi vC i Y Ri B J M F Q=>?_;clear G;subst Y;subst F;by_cases c:i<ds.length
 ·refine vD (Ck Q c) λd jw RP st1 ed eb ey alt=>?_;clear H V kp j e;obtain⟨tL,σ2⟩:=st1;refine S.turns.item i _ _ _ c J λv h1 t N k1=>S.turns.go i v _ _ _ N λh2 hP u k2=>?_;have L:∀b o,b∉wr→hi.get? b=some o→h2.get? b=some o:=λb o a x=>k2 b o a (k1 b o a x);have p:=Ri.free L B n0;have F2:∀b∈wr,dG fi vA env h2 b:=λb a=>⟨(B b a).off,S.stands _ _ u b a,(B b a).as,(B b a).adr,(B b a).tab⟩;refine T A fi vA qL jo jw {s with heap:=h2,toks:=t} v d _ _ W p.hp p.vr eb (S.item i v h2 fi d hP p.step.le p.hp.on ed) λh3 N6 X=>Hb jw qL RP tL σ2 ey A fi vA {s with heap:=h3,toks:=N6} _ _ W X.hp X.vr λf4 y O r L4 R4 o4=>?_;have g:=X.trans R4;have F4:∀b∈wr,dG f4 y env O b:=λb a=>((F2 b a).GH g).1;have MF:=S.turns.frame _ _ _ u λb a o eo=>by
   refine Or.elim (S.known b a) (λz=>?_) λZ=>Or.elim Z (λZ=>?_) λz=>?_
   ·exact rl (((F2 b z).GH g).2) eo
   ·refine aT Z λo' z=>?_;have z2:=p.step.le _ _ z;have:=p.hp.on _ _ z2;replace this:=eo▸this;cases this;exact R4.hp.on _ _ (g.step.le _ _ z2)
   ·cases z
  have l:=p.trans g;clear T Hb W ed eb ey N hP u k2 L p F2 X R4 g;rcases alt with⟨x,rfl,er⟩|⟨hfl,en⟩
  ·cases er;cases o4 with
   |ret o=>exact q f4 y O r l _ o
  ·have K:∃m,m<ds.length+1-i∧∃jo qL fi vA hi vC,∃i:Nat,({s with heap:=O,toks:=r}:Shared)={s with heap:=hi,toks:=vC}∧dI h₀ op env f as hp jo qL fi vA hi∧(∀b∈wr,dG fi vA env hi b)∧U i hi∧i≤ds.length∧m=ds.length+1-i∧m9 xs (λst=>cu C tb st) (ds.drop i) (jo,qL)=some (fl,(ρ',σ')):=
    ⟨ds.length+1-(i+1),vU c,tL,σ2,f4,y,O,r,i+1,rfl,l,F4,MF,c,rfl,en⟩
   rcases hfl with rfl|rfl<;>cases o4<;>exact K
 ·have hin:i=ds.length:=by exact sf M c
  clear T Hb W H V kp j e M c;subst hin;refine S.turns.done _ _ _ J λh1 t k1=>wpAny_execs_nil ?_;replace Q:=List.drop_length▸Q;cases Q;exact q fi vA h1 t (Ri.free k1 B n0)
end
noncomputable def IW(w:World)(h₀:Heap)(n:Nat)(env:Env)(op pl:Bool)(target iter:Expr)(ρ:aB)(σ:ak)(ds:List D)(σ':ak):Prop:=
 ∀(A:Around) (f:PM) (as:List (Addr×Addr)) (s:Shared) (Q:Value→Shared→Prop) (E:Value→Shared→Prop),
  bO A n→Hp h₀ f as s.heap σ→Vr op f as env s.heap ρ→
  (∀f1 h1 h2 tk I fp wr P Md St,cH h₀ op env f as s.heap ρ σ' f1 h1→Src w A target pl f1 ds I fp wr P Md St→(∀b o,h1.get? b=some o→h2.get? b=some o)→(∀b∈wr,h1.get? b=none)→St 0 h2→Q (.ref I) {s with heap:=h2,toks:=tk})→
  wpAny (model P0 w) A (eval iter env) (λx s₁=>wpAny (model P0 w) A (pyIter x) Q E s₁) E s
noncomputable def vH(w:World)(h₀:Heap)(n:Nat)(env:Env)(op pl:Bool)(target iter:Expr)(ev:aB→ak→Option (List D×ak)):Prop:=
 ∀(ρ:aB) (σ:ak) (ds:List D) (σ':ak),ev ρ σ=some (ds,σ')→IW w h₀ n env op pl target iter ρ σ ds σ'
section
variable{w:World}{h₀ h h' h1 h2 hp:Heap}{f f' f1 f2:PM}{as lU nG:List (Addr×Addr)}{σ σ' σ1 σ2:ak}{A:Around}{E:Value→Shared→Prop}{s:Shared}{n:Nat}{env:Env}{op dU jD:Bool}{C:Mine.Sem}{ρ jw tL:aB}{wr:List Addr}
 {K:Frag}{mg mb:Str→Option Value}{sg:List D}
noncomputable def uW:List String:=["enumerate","zip","dict_itemiterator","dict_reverseitemiterator","odict_iterator","itertools.zip_longest","itertools.pairwise"]
set_option tactic.hygienic true in
theorem iw{T:String}(b:s.heap.get? I=some o)(c:o.cls= .type T)(d:uW.contains T=false)(q:Q () s):wpAny (model P0 w) A (letOwnedTupleGo target (.ref I) v) Q E s:=by
 have body:wpAny (model P0 w) A (do
   let(.ref r,.ref a):=((Value.ref I),v)|return
   let o←load r
   match o.cls,o.data with
   | .type n,.fields vs=>
    if["enumerate","zip","dict_itemiterator","dict_reverseitemiterator","odict_iterator","itertools.zip_longest","itertools.pairwise"].contains n&&vs[0]? ==some (rawInt a)then
     rule "for.unpacks-the-owned-tuple"
     updateField r 0 .none
   |_,_=>pure ()) Q E s:=by
  cases v with
  |ref a=>
   refine wpAny_bind (wpAny_load b ?_);refine rl c ?_;cases o.data<;>first|exact wpAny_pure q|skip
   rename_i vs;show wpAny _ _ (if(uW.contains T&&vs[0]? ==some (rawInt a))=true then _ else _) _ _ _;refine rl d ?_;rw[Bool.false_and,if_neg (by decide)];exact wpAny_pure q
  |_=>exact wpAny_pure q
 unfold letOwnedTupleGo;cases target<;>first|exact wpAny_pure q|exact body
theorem src_list(R:bO A n)(e:f a=some (dR vs k))(r:bQ f vs l)(g:h.get? a=some (dR vs k)):
  Src w A target true f l h.objs.size [h.objs.size,a] [h.objs.size] (λi v j=>vs.toArray[i]? =some v) (λi v h'=>vs.toArray[i]? =some v∧h'.IsListIter h.objs.size a (i+1)∧h'.IsList a vs.toArray) (λi h'=>h'.IsListIter h.objs.size a i∧h'.IsList a vs.toArray):=by
 have t:=Nat.ne_of_lt (Heap.lt_size g);have x:=Walks.list (prog:=P0) (w:=w) R.hd h.objs.size a t vs.toArray;have W:=KTurns.ofWalks (target:=target) x (λi v s Q E st q=>by
  exact a9 st λc j=>bG c λo p z j=>iw p z rfl q)
 simp only[show vs.toArray.size=l.length by simp[r.length]]at W;refine⟨W,λi h' st b m=>?_,x.self,λb m=>?_,λi v h' f' d P F H B=>.inl ?_⟩
 ·refine rl (List.mem_singleton.mp m) (a9 st λc j=>?_);exact ay c λo p j=>⟨o,p⟩
 ·refine Or.elim (List.mem_cons.mp m) (λj=>?_) λm=>?_
  ·subst j;exact .inl (.head _)
  ·exact rl (List.mem_singleton.mp m) (.inr (.inl ⟨_,e⟩))
 ·refine ay (r.get B) λu G D=>?_;have:v=u:=by
   have y:vs[i]? =some v:=by simpa using P
   simp only[G]at y;exact(Option.some.inj y).symm
  exact rl this (D.mono F)
theorem G0(R:bO A n)(e:f a=some (jB vs k))(r:bQ f vs l)(g:h.get? a=some (jB vs k)):
  Src w A target true f l h.objs.size [h.objs.size,a] [h.objs.size] (λi v j=>vs.toArray[i]? =some v) (λi v h'=>vs.toArray[i]? =some v∧h'.IsTupleIter h.objs.size a (i+1)∧h'.IsTuple a vs.toArray) (λi h'=>h'.IsTupleIter h.objs.size a i∧h'.IsTuple a vs.toArray):=by
 have t:=Nat.ne_of_lt (Heap.lt_size g);have x:=Walks.tuple (prog:=P0) (w:=w) R.hd h.objs.size a t vs.toArray;have W:=KTurns.ofWalks (target:=target) x (λi v s Q E st q=>by
  exact a9 st λc j=>bG c λo p z j=>iw p z rfl q)
 simp only[show vs.toArray.size=l.length by simp[r.length]]at W;refine⟨W,λi h' st b m=>?_,x.self,λb m=>?_,λi v h' f' d P F H B=>.inl ?_⟩
 ·refine rl (List.mem_singleton.mp m) (a9 st λc j=>?_);exact ay c λo p j=>⟨o,p⟩
 ·refine Or.elim (List.mem_cons.mp m) (λj=>?_) λm=>?_
  ·subst j;exact .inl (.head _)
  ·exact rl (List.mem_singleton.mp m) (.inr (.inl ⟨_,e⟩))
 ·refine ay (r.get B) λu G D=>?_;have:v=u:=by
   have y:vs[i]? =some v:=by simpa using P
   simp only[G]at y;exact(Option.some.inj y).symm
  exact rl this (D.mono F)
theorem lQ.key(r:lQ f kvs l){i:Nat}{k:Int}(e:kvs[i]? =some (k,x)):∃d,l[i]? =some (k,d):=by
 have h1:(kvs.map (λx=>x.1))[i]? =some k:=by refine rl (List.getElem?_map) ?_;refine rl e ?_;rfl
 rw[r.keys]at h1;replace h1:=(List.getElem?_map)▸h1;cases q:l[i]? with
 |none=>rw[q]at h1;exact no h1
 |some p=>rw[q]at h1;clear r e q;obtain⟨a,b⟩:=p;exact one h1 (⟨b,rfl⟩)
theorem GZ(R:bO A n)(e:f a=some (dm es k))(g:h.get? a=some (dm es k))(d:h.DictAt (intKind P0 w) a kvs ep)(r:lQ f kvs l):
  Src w A target true f (l.map λp=>D.int p.1) h.objs.size [h.objs.size,a] [h.objs.size] (λi v j=>∃k x,kvs[i]? =some (k,x)∧(intKind P0 w).is k v=true)
   (λi v h'=>(∃k x,kvs[i]? =some (k,x)∧(intKind P0 w).is k v=true)∧h'.IsKeyIter h.objs.size a (i+1) kvs.length ep∧Heap.DictAt (intKind P0 w) h' a kvs ep) (λi h'=>h'.IsKeyIter h.objs.size a i kvs.length ep∧Heap.DictAt (intKind P0 w) h' a kvs ep):=by
 have m:=Nat.ne_of_lt (Heap.lt_size g);have y:=Walks.dictKeys (knd:=intKind P0 w) R.hd h.objs.size a m kvs ep;have W:=KTurns.ofWalks (target:=target) y (λi v s Q E st q=>by
  exact a9 st λc j=>bG c λo B K j=>iw B K rfl q)
 rw[show kvs.length=(l.map λp=>D.int p.1).length by simp[r.length]]at W y;refine rl (show kvs.length=(l.map λp=>D.int p.1).length by simp[r.length]) ?_;refine⟨W,λi h' st b u=>?_,y.self,λb u=>?_,λi v h' f' d P F J H=>.inl ?_⟩
 ·refine rl (List.mem_singleton.mp u) (a9 st λc j=>?_);exact ay c λo B j=>⟨o,B⟩
 ·refine Or.elim (List.mem_cons.mp u) (λj=>?_) λu=>?_
  ·subst j;exact .inl (.head _)
  ·exact rl (List.mem_singleton.mp u) (.inr (.inl ⟨_,e⟩))
 ·refine cJ P λk x L I=>aT (Value.isInt_shape I) λt z=>?_;clear R e g m y W P F J I;subst z;refine aT (r.key L) λM G=>?_;rw[List.getElem?_map,G]at H;exact one H (.int _ _)
theorem DV{i:Nat}(e:(upto a b)[i]? =some d):d= .int (a+i):=by
 unfold upto at e;rw[List.getElem?_map]at e;cases q:(List.range (b-a).toNat)[i]? with
 |none=>rw[q]at e;exact no e
 |some k=>replace e:=q▸e;have:=List.getElem?_eq_some_iff.mp q;clear q;obtain⟨h1,h2⟩:=this;rw[List.getElem_range]at h2;subst h2;refine one e ?_;rfl
theorem yI{a:Int}(R:bO A n):
  Src w A target true f (upto a b) I [I] [I] (λi v j=>∃t,v= .int (a+i*1) t) (λi v h'=>(∃t,v= .int (a+i*1) t)∧IsRangeIter h' I (a+((i+1:Nat):Int)*1) (((b-a).toNat:Int)-((i+1:Nat):Int)) 1) (λi h'=>IsRangeIter h' I (a+(i:Nat)*1) (((b-a).toNat:Int)-(i:Nat)) 1):=by
 have e:=Walks.range (prog:=P0) (w:=w) R.hd I a 1 (b-a).toNat;have W:=KTurns.ofWalks (target:=target) e (λi v s Q E st q=>iw st rfl rfl q);rw[show(b-a).toNat=(upto a b).length by simp[upto]]at W e;refine rl (show(b-a).toNat=(upto a b).length by simp[upto]) ?_;refine⟨W,λi h' st b c=>?_,e.self,λb c=>?_,λi v h' f' d P F k g=>.inl ?_⟩
 ·exact rl (List.mem_singleton.mp c) (⟨_,st⟩)
 ·exact .inl c
 ·obtain⟨t,rfl⟩:=P;refine rl (DV g) ?_;rw[Int.mul_one];exact .int _ _
theorem gR{T:String}(i:eW w h₀ n env op dU l (bH C tl))(e:bH C tl ρ σ=some (xs,σ'))(R:bO A n)(H:Hp h₀ f as s.heap σ)(V:Vr op f as env s.heap ρ)
  (q:∀f' h' tk vs,cH h₀ dU env f as s.heap ρ σ' f' h'→cV f' as vs xs→wpAny (model P0 w) A (call (.type T) vs) Q E {s with heap:=h',toks:=tk}):
  wpAny (model P0 w) A (callWith pos (.type T) [] (backTo pos (starEach l env)) (backToKw pos (keywordEach [] env))) Q E s:=by
 have c:=i.2 pos;refine PySem.callWith_type c ?_;have d:=i.1 ρ σ xs σ' e pos A f as s (λvs g=>wpAny (model P0 w) A (call (.type T) ([]++vs)) Q E g) E R H V λf' h' tk vs j o1=>q f' h' tk vs j o1;generalize backTo pos (starEach l env)=ts at d c;cases ts with
 |nil=>exact evalArgs_none d
 |cons t r=>
  obtain⟨b,x⟩:=t;cases b with
  |true=>simp only[List.any_cons]at c;exact tf c
  |false=>exact evalArgs_plain d
theorem BL{T:String}(g:eW w h₀ n env op dU l (bH C tl))(e:bH C tl ρ σ=some (xs,σ'))(R:bO A n)(H:Hp h₀ f as s.heap σ)(V:Vr op f as env s.heap ρ)
  (q:∀f' h' tk vs,cH h₀ dU env f as s.heap ρ σ' f' h'→cV f' as vs xs→wpAny (model P0 w) A (call (.builtin T) vs) Q E {s with heap:=h',toks:=tk}):
  wpAny (model P0 w) A (callWith pos (.builtin T) [] (backTo pos (starEach l env)) (backToKw pos (keywordEach [] env))) Q E s:=by
 have a:=g.2 pos;refine Calls.callWith_builtin a ?_;have c:=g.1 ρ σ xs σ' e pos A f as s (λvs d=>wpAny (model P0 w) A (call (.builtin T) ([]++vs)) Q E d) E R H V λf' h' tk vs i o1=>q f' h' tk vs i o1;generalize backTo pos (starEach l env)=ts at c a;cases ts with
 |nil=>exact evalArgs_none c
 |cons t r=>
  obtain⟨b,x⟩:=t;cases b with
  |true=>simp only[List.any_cons]at a;exact tf a
  |false=>exact evalArgs_plain c
structure bW(env:Env)(mg:Str→Option Value)(x:Str)(v:Value):Prop where
 kind:env.kindOf x=some .globalImplicit
 free:mg x=none
 debug:(x==("__debug__":Str))=false
 name:x≠"__name__"
 val:bootBuiltins x=some v
theorem bW.eval(B:bW env mg x v)(G:h8 K mg mb h₀ sg)(H:Hp h₀ f as s.heap σ)(a:jq env)(q:Q v s):wpAny (model P0 w) A (eval (.Name x pos) env) Q E s:=
 BG G H a B.kind B.debug B.free B.name B.val q
theorem kE(e:aH C ta ρ σ=some (v,σ1)):bH C (.cons ta .nil) ρ σ=some ([v],σ1):=aF e rfl
theorem vv{v u:V}(e:aH C ta ρ σ=some (v,σ1))(a:aH C tb ρ σ1=some (u,σ2)):bH C (.cons ta (.cons tb .nil)) ρ σ=some ([v,u],σ2):=aF e (aF (kE a) rfl)
theorem cV.one(o:cV f as vs [x]):∃v,vs=[v]∧jG f as v x:=by
 cases o with
 |cons a r=>cases r;exact⟨_,rfl,a⟩
theorem cV.two(o:cV f as vs [x,y]):∃v u,vs=[v,u]∧jG f as v x∧jG f as u y:=by
 cases o with
 |cons a r=>refine ay r.one λu c b=>?_;clear r;subst c;exact(fu _ u ⟨rfl,a,b⟩)
theorem bN(G:i7 h₀)(D:aY w h₀ n env op op a (aH C ta)):vH w h₀ n env op true target a (pB C (.of ta)):=by
 refineλρ σ ds σ' e=>au e λx σ1 B e=>az e λl m e=>two e ?_;refineλA f as s Q E R H V q=>D ρ σ _ _ (oq B) A f as s _ E R H V λf1 h1 i v k o1=>?_;have j:bP f1 v x:=o1;have d:h1.get? h1.objs.size=none:=aq (Nat.le_refl _);have p:∀b∈[h1.objs.size],h1.get? b=none:=λb J=>by exact rl (List.mem_singleton.mp J) d
 unfold items at m;clear D B H V o1 d;split at m
 ·(revert q;refine one m ?_;intro q)
  cases j with
  |lst e r=>have g:=k.hp.on _ _ e;exact wpAny_pyIter_list ⟨_,g,rfl,_,rfl⟩ (q f1 h1 _ i _ _ _ _ _ _ k (src_list R e r g) (λb o z=>Heap.get?_push_of_some _ z) p ⟨⟨_,Heap.get?_push_size _ rfl,rfl,rfl⟩,_,Heap.get?_push_of_some _ g,rfl,_,rfl⟩)
 ·(revert q;refine one m ?_;intro q)
  cases j with
  |tup e r=>have g:=k.hp.on _ _ e;exact wpAny_pyIter_tuple ⟨_,g,rfl,_,rfl⟩ (q f1 h1 _ i _ _ _ _ _ _ k (G0 R e r g) (λb o z=>Heap.get?_push_of_some _ z) p ⟨⟨_,Heap.get?_push_size _ rfl,rfl,rfl⟩,_,Heap.get?_push_of_some _ g,rfl,_,rfl⟩)
 ·(revert q;refine one m ?_;intro q)
  cases j with
  |@dct a0 K I O e F r=>
   have g:=k.hp.on _ _ e;refine ay (dB (w:=w) g F r) λkvs M N=>?_;have y:∃ep,Heap.DictAt (intKind P0 w) h1 a0 kvs ep:=by exact D7 M λo L ep z=>(h9 ep o L z)
   refine aT y λep u=>?_;have t:=gm G (s:={s with heap:=h1,toks:=i}) k.hp g r;refine wpAny_pyIter_dict t u ?_;refine q f1 h1 _ i _ _ _ _ _ _ k (GZ R e g u N) (λb o z=>Heap.get?_push_of_some _ z) p ⟨⟨_,Heap.get?_push_size _ rfl,rfl,rfl⟩,?_⟩;exact Heap.DictAt.at' u λo z=>Heap.get?_push_of_some _ z
 ·exact no m
theorem lG:Builtin.Range.rangeSize a b 1=((b-a).toNat:Int):=by rw[rangeSize_one];exact(Classical.em (a<b)).elim (λh=>(if_pos h).trans (Int.toNat_of_nonneg (Int.le_of_lt (Int.sub_pos_of_lt h))).symm) λh=>(if_neg h).trans (congrArg Int.ofNat (Int.toNat_of_nonpos (Int.sub_nonpos_of_le (Int.not_lt.mp h)))).symm
theorem nP(h1:a.natAbs<1000)(h2:b.natAbs<1000):Builtin.Range.small a b 1=true:=by
 have c:∀i:Int,i.natAbs<4000→Builtin.Range.rangeFitsLong i=true:=λi h=>by unfold Builtin.Range.rangeFitsLong;simp only[Bool.and_eq_true,decide_eq_true_eq];exact Hu (Nat.lt_trans h (by decide))
 unfold Builtin.Range.small;simp only[c a (Bw h1),c b (Bw h2),c 1 (by decide),lG,c _ (Lv h1 h2)];simp only[Bool.true_and,Bool.or_eq_true];right;exact rl (if_pos (by decide)) (c _ (Ip h2))
theorem nv(G:h8 K mg mb h₀ sg)(B:bW env mg "range" (.type "range"))(g:eW w h₀ n env op op [a] (bH C (.cons ta .nil))):vH w h₀ n env op true target (.Call (.Name "range" np) [a] [] pos) (pB C (.u7 ta)):=by
 refineλρ σ ds σ' e=>au e λk σ1 d e=>aS e λj e=>two e ?_;refineλA f as s Q E R H V q=>wpAny_Call_Name_kw (B.eval G H V.ok (gR g (kE (gM d)) R H V λf1 h1 i vs m o1=>?_));refine ay o1.one λv c o=>?_;clear G B g d e H V o1;subst c;obtain⟨t,rfl⟩:=bP.jy o;refine call_range_1 ?_;refine wpAny_pyIter_range (IsRange.new ..) (nP (by decide) (of_decide_eq_true j)) ?_;refine q f1 h1 _ _ _ _ _ _ _ _ m (yI R) (λb o z=>Heap.get?_push_of_some _ (Heap.get?_push_of_some _ z)) (λb l=>?_) ?_
 ·exact rl (List.mem_singleton.mp l) (aq (by rw[Heap.size_push];exact Nat.le_succ _))
 ·show Heap.get? _ _=_;refine rl (Heap.get?_push_size _ rfl) ?_;refine rl lG ?_;rfl
theorem fU(G:h8 K mg mb h₀ sg)(B:bW env mg "range" (.type "range"))(j:eW w h₀ n env op op [a,b] (bH C (.cons ta (.cons tb .nil)))):vH w h₀ n env op true target (.Call (.Name "range" np) [a,b] [] pos) (pB C (.iH ta tb)):=by
 refineλρ σ ds σ' e=>au e λm σ1 i e=>au e λk σ2 g e=>aS e λd e=>?_;simp only[Bool.and_eq_true]at d;refine two e ?_;refineλA f as s Q E R H V q=>wpAny_Call_Name_kw (B.eval G H V.ok (gR j (vv (gM i) (gM g)) R H V λf1 h1 l vs x o1=>?_));refine fP o1.two λv u c o p=>?_;clear G B j i g e H V o1;subst c;obtain⟨t,rfl⟩:=bP.jy o;obtain⟨y,rfl⟩:=bP.jy p;refine call_range_2 ?_;refine wpAny_pyIter_range (IsRange.new ..) (nP (of_decide_eq_true d.1) (of_decide_eq_true d.2)) ?_;refine q f1 h1 _ _ _ _ _ _ _ _ x (yI R) (λb o z=>Heap.get?_push_of_some _ (Heap.get?_push_of_some _ z)) (λb r=>?_) ?_
 ·exact rl (List.mem_singleton.mp r) (aq (by rw[Heap.size_push];exact Nat.le_succ _))
 ·show Heap.get? _ _=_;refine rl (Heap.get?_push_size _ rfl) ?_;refine rl lG ?_;simp
theorem m7:∀{l:List D} {m:Int} {i:Nat} {d:D},(g5 m l)[i]? =some d→∃x,l[i]? =some x∧d= .tup [.int (m+i),x]
 |x::l,m,0,d,e=>by simp[g5]at e;subst e;exact⟨x,rfl,by simp⟩
 |x::l,m,i+1,d,e=>by simp only[g5]at e;refine ay (m7 e) λy h1 h2=>⟨y,by simpa using h1,?_⟩;refine rl h2 ?_;congr 3;push_cast;exact Jt
 |[],_,_,_,e=>by exact no e
theorem m8:∀{l:List D} {m:Int},(g5 m l).length=l.length
 |[],_=>rfl
 |_::l,_=>by simp[g5,m8]
theorem rN(R:bO A n)(r:bQ f vs l)(j:e≠it)(q:a≠e)(p:a≠it)(c:(∃o,f a=some o)∨a∈fr):
  Src (fr:=fr) w A (.Tuple elts kk tp) false f (g5 0 l) e [e,it,a] [e,it] (λi v h=>∃T vals,v= .ref T∧(∃t x,vs.toArray[i]? =some x∧vals=#[.int i t,x])∧h.IsTuple T vals)
   (λi v h=>∃T vals,v= .ref T∧(∃t x,vs.toArray[i]? =some x∧vals=#[.int i t,x])∧h.IsTuple T vals∧((∃x,IsEnumOut h e it ((i:Int)+1) x T)∧h.IsListIter it a (i+1)∧h.IsList a vs.toArray∧T≠e∧T≠it))
   (λi h=>(∃old,IsEnum h e it i old)∧h.IsListIter it a i∧h.IsList a vs.toArray):=by
 have B:=WalksT.toU (WalksT.enumerate (prog:=P0) (w:=w) R.hd e it a j q p vs.toArray);have W:=KTurns.ofWalksU (elts:=elts) (k:=kk) (pos:=tp) B;replace W:=(show vs.toArray.size=(g5 0 l).length by refine rl m8 ?_;simp[r.length])▸W;refine⟨W,λi h' st b m=>?_,B.self,λb m=>?_,λi v h' f' d P F K G=>.inr ⟨rfl,?_⟩⟩
 ·clear R j q p B W;obtain⟨⟨old,N⟩,⟨o,M,_⟩,_⟩:=st;refine Or.elim (List.mem_cons.mp m) (λD=>?_) λm=>?_
  ·subst D;exact⟨_,N⟩
  ·exact rl (List.mem_singleton.mp m) (⟨o,M⟩)
 ·clear R j q p B W;rcases List.mem_cons.mp m with rfl|m
  ·exact .inl (.head _)
  ·refine Or.elim (List.mem_cons.mp m) (λD=>?_) λm=>?_
   ·subst D;exact .inl (.tail _ (.head _))
   ·exact rl (List.mem_singleton.mp m) (.inr c)
 ·refine fP P λT vals z g L=>?_;clear R j q p c B W P K;subst z;refine cJ g λt x I g=>?_;subst g;refine ay (m7 G) λy h1 z=>?_;clear G g;subst z;refine ay (r.get h1) λu H O=>?_;have:x=u:=by
   have J:vs[i]? =some x:=by simpa using I
   simp only[H]at J;exact(Option.some.inj J).symm
  clear r I h1 H;subst this;refine⟨_,rfl,T,[.int i t,x],rfl,.cons ?_ (.cons (O.mono F) .nil),.inl L⟩;simp only[Int.zero_add];exact .int _ _
end
section
variable{w:World}{h₀ h h' h1 h2 hp:Heap}{f f' f1 f2:PM}{as lU nG:List (Addr×Addr)}{σ σ' σ1 σ2:ak}{A:Around}{E:Value→Shared→Prop}{s:Shared}{n:Nat}{env:Env}{op dU jD:Bool}{C:Mine.Sem}{ρ jw tL:aB}{wr:List Addr}
 {K:Frag}{mg mb:Str→Option Value}{sg:List D}
theorem rO{x:Str}
  (o:Draws P0 w A.in1 it [it] x.cps.size (λi v=>∃c u,x.cps[i]? =some c∧v= .str ⟨#[c]⟩ u) (λi h=>h.IsStrIter it T0 x t i))(a:e≠it):
  Src w A (.Tuple elts kk tp) false f (g5 0 (chars x)) e [e,it] [e,it] (λi v h=>∃T vals,v= .ref T∧(∃t y,(∃c u,x.cps[i]? =some c∧y= .str ⟨#[c]⟩ u)∧vals=#[.int i t,y])∧h.IsTuple T vals)
   (λi v h=>∃T vals,v= .ref T∧(∃t y,(∃c u,x.cps[i]? =some c∧y= .str ⟨#[c]⟩ u)∧vals=#[.int i t,y])∧h.IsTuple T vals∧((∃x,IsEnumOut h e it ((i:Int)+1) x T)∧h.IsStrIter it T0 x t (i+1)∧T≠e∧T≠it))
   (λi h=>(∃old,IsEnum h e it i old)∧h.IsStrIter it T0 x t i):=by
 have l:=WalksT.toU (WalksT.enumerateD o e a (by simpa using a) (by simp));have W:=KTurns.ofWalksU (elts:=elts) (k:=kk) (pos:=tp) l;replace W:=(show x.cps.size=(g5 0 (chars x)).length by refine rl m8 ?_;simp[chars])▸W;refine⟨W,λi h' st b j=>?_,l.self,λb j=>.inl j,λi v h' f' d P F B p=>.inr ⟨rfl,?_⟩⟩
 ·clear a l W;obtain⟨⟨old,G⟩,hs⟩:=st;refine Or.elim (List.mem_cons.mp j) (λr=>?_) λj=>?_
  ·subst r;exact⟨_,G⟩
  ·exact rl (List.mem_singleton.mp j) (o.live _ _ hs)
 ·refine fP P λT vals g m D=>?_;clear o a l W P F B;subst g;obtain⟨z,y,⟨c,u,q,rfl⟩,rfl⟩:=m;refine ay (m7 p) λy h1 g=>?_;clear p;subst g;have:y= .str ⟨#[c]⟩:=by unfold chars at h1;rw[List.getElem?_map,Array.getElem?_toList,q]at h1;refine one h1 ?_;rfl
  clear q h1;subst this;refine⟨_,rfl,T,[.int i z,.str ⟨#[c]⟩ u],rfl,.cons ?_ (.cons (.str _ _) .nil),.inl D⟩;rw[Int.zero_add];exact .int _ _
set_option tactic.hygienic true in
theorem rI(G:h8 K mg mb h₀ sg)(B:bW env mg "enumerate" (.type "enumerate"))(L:eW w h₀ n env op op [a] (bH C (.cons ta .nil))):
  vH w h₀ n env op false (.Tuple elts kk tp) (.Call (.Name "enumerate" np) [a] [] pos) (pB C (.uf ta)):=by
 refineλρ σ ds σ' e=>au e λx σ1 J e=>az e λl m e=>two e ?_;refineλA f as s Q E R H V q=>wpAny_Call_Name_kw (B.eval G H V.ok (gR L (kE (oq J)) R H V λf1 h1 c vs p o1=>?_));refine ay o1.one λv u o=>?_;clear G B L J H V o1;subst u;have D:bP f1 v x:=o;have y:∀b∈[h1.objs.size+1,h1.objs.size],h1.get? b=none:=λb z=>by
  refine Or.elim (List.mem_cons.mp z) (λM=>?_) λz=>?_
  ·subst M;exact aq (Nat.le_succ _)
  ·exact rl (List.mem_singleton.mp z) (aq (Nat.le_refl _))
 unfold wy at m;clear o;split at m
 ·(revert q;refine one m ?_;intro q)
  cases D with
  |@lst a0 N O S e r=>have g:=p.hp.on _ _ e;have F:=Heap.lt_size g;exact call_enumerate_list ⟨_,g,rfl,_,rfl⟩ λh2 j i P k=>wpAny_pyIter_enum j (q f1 h1 h2 c _ _ _ _ _ _ p (rN R r (Nat.ne_of_gt (Nat.lt_succ_self _)) (Nat.ne_of_lt (Nat.lt_succ_of_lt F)) (Nat.ne_of_lt F) (.inl ⟨_,e⟩)) k y ⟨⟨_,j⟩,i,_,k _ _ g,rfl,_,rfl⟩)
 ·cases m;obtain⟨t,rfl⟩:=bP.DP D;refine call_enumerate_str λh2 j i P k=>wpAny_pyIter_enum j ?_;rename_i x _;by_cases I:(x.cps.all (λx=>x<128))=true
  ·have d:h2.IsStrIter h1.objs.size "str_ascii_iterator" x t 0:=by rw[show strIterType x="str_ascii_iterator" from if_pos I]at i;exact i
   exact q f1 h1 h2 c _ _ _ _ _ _ p (rO (e:=h1.objs.size+1) (Draws.strAscii (A:=A.in1) R.hd _ x t) (Nat.ne_of_gt (Nat.lt_succ_self _))) k y ⟨⟨_,j⟩,d⟩
  ·have d:h2.IsStrIter h1.objs.size "str_iterator" x t 0:=by rw[show strIterType x="str_iterator" from if_neg I]at i;exact i
   exact q f1 h1 h2 c _ _ _ _ _ _ p (rO (e:=h1.objs.size+1) (Draws.strWide (A:=A.in1) R.hd _ x t) (Nat.ne_of_gt (Nat.lt_succ_self _))) k y ⟨⟨_,j⟩,d⟩
 ·exact no m
set_option tactic.hygienic true in
theorem Gd:∀{st st':St} {b:Fl},m9 xs body ds st=some (b,st')→b≠.cont:=by
 induction ds with
 |nil=>intro st st' b e;exact two e nofun
 |cons d ds c=>
  intro st st' b e;refine az e λa a e=>au e λf a a e=>?_;clear a;cases f with
  |ret v=>exact two e nofun
  |next=>exact c e
  |cont=>exact c e
set_option tactic.hygienic true in
theorem c7(m:vH w h₀ n env op pl target iter (pB C ti))(T:lT w h₀ n env op pl xs target)(p:cR w h₀ n env op op (execs body env) (cu C tb))
  (hs:∀x,foldedSetIterable iter env x=pure x):cR w h₀ n env op op (exec (.For target iter body [] pos) env) (fZ C (.jQ xs ti tb)):=by
 refineλρ σ i ρ' σ' e=>au e λds σ1 j e=>λA f as s Q E R H V q=>wpAny_For ?_ hs;refine m ρ σ ds σ1 j A f as s _ E R H V λf1 h1 h2 tk I r wr P u t c S k g st=>Cm S T p R c.hp c.vr k g st e λf' b h' a l=>?_;have d:=(dI.of c).trans l;cases i with
 |ret x=>exactλv o=>q f' b h' a _ d (.ret o)
 |next=>exact q f' b h' a _ d .next
 |cont=>exact absurd rfl (Gd e)
set_option tactic.hygienic true in
theorem lN(v:mU w h₀ n env op op test (λρ σ=>lV (aH C tt ρ σ)))(x:cR w h₀ n env op op (execs body env) (cu C tb)):
  cR w h₀ n env op op (exec (.While test body [] pos) env) (fZ C (.lO tt tb)):=by
 refineλρ σ B ρ' σ' e=>λA f as s Q E R H V q=>wpAny_While (codeAny_whileLoop
  (λk p=>∃jo qL fi vA hi vC,p={s with heap:=hi,toks:=vC}∧dI h₀ op env f as s.heap jo qL fi vA hi∧qH (λst=>lV (aH C tt st.1 st.2)) (λst=>cu C tb st) k (jo,qL)=some (B,(ρ',σ')))
  ?_ 200 (HR ρ σ f as s.heap s.toks ⟨rfl,.refl H V,e⟩))
 intro k p g;refine OC g λjo qL fi vA hi vC l j a=>?_;clear g;subst l;cases k with
 |zero=>exact no a
 |succ k=>
  refine au a λb σ1 u a=>v jo qL b σ1 u A fi vA {s with heap:=hi,toks:=vC} _ _ R j.hp j.vr λf1 h1 i y=>?_;have d:=j.trans (dI.of y);clear v e H V j u y;cases b with
  |true=>
   refine mE (au (LU a) λz st' t a=>x jo σ1 _ st'.1 st'.2 t A f1 vA {s with heap:=h1,toks:=i} _ _ R d.hp d.vr λf2 nG h2 c r m o2=>?_);clear x R t;cases o2 with
   |ret o=>
    revert q
    exact three a λq=>q f2 nG h2 c _ (d.trans m) (.ret o)
   |next=>exact⟨k,Nat.lt_succ_self _,st'.1,st'.2,f2,nG,h2,c,rfl,d.trans m,a⟩
   |cont=>exact⟨k,Nat.lt_succ_self _,st'.1,st'.2,f2,nG,h2,c,rfl,d.trans m,a⟩
  |false=>
   revert q
   exact three a λq=>mD (wpAny_execs_nil (q f1 vA h1 i _ d .next))
theorem qw(l:aY w h₀ n env op op value (aH C t))(hs:aG env op x):cR w h₀ n env op op (exec (.AugAssign (.Name (nm x) pos') .Add value pos) env) (fZ C (.aug x t)):=by refineλρ σ r ρ' σ' e=>az e λi g e=>au e λj σ1 k e=>three e ?_;refineλA f as s Q E R H V q=>wpAny_AugAssign_Name (uN V (yk g) λv d=>?_);refine aT (bP.jy d) λp a=>?_;clear g e d;subst a;refine l ρ σ _ _ (gM k) A f as s _ E R H V λf1 h1 b u c o1=>aT (bP.jy o1) λo a=>?_;clear l e k R H V o1;subst a;exact iadd_int (fX (s:={s with heap:=h1,toks:=b+1}) (y:=.d (.int (i+j))) c.hp c.vr hs (.int _ _) gp λh' tk m=>q f1 as h' tk _ ((dI.of c).trans m) .next)
end
section
variable{w:World}{h₀ h h' h1 h2 hp:Heap}{f f' f1 f2:PM}{as lU nG:List (Addr×Addr)}{σ σ' σ1 σ2:ak}{A:Around}{E:Value→Shared→Prop}{s:Shared}{n:Nat}{env:Env}{op dU jD:Bool}{C:Mine.Sem}{ρ jw tL:aB}{wr:List Addr}
 {K:Frag}{mg mb:Str→Option Value}{sg:List D}
theorem cA.len:∀{es:List DictEntry} {fs:List (Nat×V)},cA f as es fs→es.length=fs.length
 |_,_,.nil=>rfl
 |_,_,.cons _ _ r=>congrArg (λx=>x+1) r.len
theorem vd:∀{fs:List (Nat×V)},(e9 fs x v).length≤fs.length+1
 |[]=>Nat.le_refl _
 |p::r=>by
  unfold e9;split
  ·simp
  ·simp only[List.length_cons];have:=vd (x:=x) (v:=v) (fs:=r);exact Jv this
theorem cA.put{x:Nat}(b:x<71){v:Value}{V':V}{hs:Int}(o:jG f as v V'):∀{es:List DictEntry} {fs:List (Nat×V)},cA f as es fs→
  cA f as (PySem.putIn (λy=>y.key.isStr (nm x)) (λe=>{e with val:=v}) ⟨hs,.str (nm x) tk,v⟩ es) (e9 fs x V')
 |_,_,.nil=>.cons b o .nil
 |_,_,.cons (x:=y) z a r=>by
  unfold e9;by_cases q:y=x
  ·subst q;refine rl (PySem.putIn_hit _ _ _ _ _ (by simp only[my z z,decide_true])) ?_;simp only[decide_true];exact .cons z o r
  ·refine rl (PySem.putIn_miss _ _ _ _ _ (by simp only[my z b,decide_eq_false q])) ?_;simp only[decide_eq_false q];exact .cons z a (r.put b o)
theorem cA.strs:∀{es:List DictEntry} {fs:List (Nat×V)},cA f as es fs→es.any (λx=>x.refKey)=false
 |_,_,.nil=>rfl
 |_,_,.cons _ _ r=>by refine rl List.any_cons (rl r.strs ?_);rfl
set_option tactic.hygienic true in
theorem GC{x l dx:Addr}{m d:Obj}{B:List DictEntry}(X:K.In s.heap)(I:InstAt s.heap x ox l (some m))(y:ox.dict=some dx)(i:plainOver K l=true)(r:takerIn K l name=some none)(t:(clsIn K l).any (λx=>x.hasDict)=true)
  (g:(lookIn name m).isSome=true)(e:Obj.putName name (PyData.keyHash w.params name) (.str name s.toks) v m=d)(U:d.data= .dict B.toArray k)(M:B.length≤1000)(P:d.isFreed=false)
  (q:∀h',h'.get? dx=some d→(∀b,b≠dx→h'.get? b=s.heap.get? b)→R (.ok (.ret .none)) {s with heap:=h',toks:=s.toks+1}):
  codeAny (model P0 w) A (.call (.builtin "object.__setattr__") ⟨[.ref x,.str name tk,v],[]⟩) R s:=by
 refine osa_open X I i r λb=>ay (any_some t) λW Q o=>?_;obtain⟨N,j,O,D⟩:=I;clear i r t O;obtain⟨V,J,L,H⟩:=ox;dsimp only at j y D;subst j y;dsimp only at D;have F:=e▸Heap.get?_update_self _ D (e▸P);refine wpAny_bind (wpAny_pure (wpAny_bind (wpAny_bind (wpAny_loadPart N (wpAny_bind ((looks_clsIn X Q).here ?_))))));refine rl o ?_;refine wpAny_pure (wpAny_bind (wpAny_pure (wpAny_bind ?_)));unfold nsSet;refine wpAny_bind (wpAny_bind (wpAny_askSetting (wpAny_pure (wpAny_bind (wpAny_mkText (wpAny_bind (wpAny_loadPart D ?_)))))));unfold lookIn at g;split at g
 ·rename_i a p G;refine rl G ?_;dsimp only;have c:(!a.any (λx=>x.key.isStr name)&&a.any (λx=>x.refKey))=false:=by
   refine rr Array.any_toList (rr Array.any_toList ?_);split at g
   ·rename_i T u;refine rl (List.any_eq_true.mpr ⟨T,List.mem_of_find?_eq_some u,List.find?_some u⟩) ?_;rfl
   ·split at g
    ·exact ft g
    ·rename_i z;simp only[Bool.not_eq_true]at z;simp only[z,Bool.and_false]
  rw[aRefKeyMayBeTheName_at];refine rl c ?_;refine wpAny_updatePart D ?_;refine wpAny_bind (wpAny_lookBehind F (by refine rl U ?_;exact pastItsLine_dict (by refine rl List.size_toArray (rl sizeLine_eq ?_);exact Jh M)) ?_);exact wpAny_pure (q _ F λb S=>Heap.get?_update_ne _ _ _ _ S)
 ·exact ft g
theorem lH(X:K.In h₀)(G:nE K)(H:Hp h₀ f as s.heap σ)(y:as[k]? =some p)(z:σ[k]? =some (.inst c fs))(j:yu c x=true)(l:fs.length<900)(o:jG f as v V')
  (q:∀h' tk,(∀b,b≠p.2→h'.get? b=s.heap.get? b)→Hp h₀ f as h' (σ.set k (.inst c (e9 fs x V')))→Q () {s with heap:=h',toks:=tk}):wpAny (model P0 w) A (setAttr (.ref p.1) (nm x) v) Q E s:=by
 refine bR (H.cells _ _ _ y z) λa b D=>cJ D λM m g r=>qM (G.of j) λi P t=>a9 (s9 j) λu O=>bG t.cls λR e d J=>?_;have I:=wM (H.on _ _ a) g;refine set_plain (H.qX X) I t.seta ?_;have L:(lookIn (nm x) (dm M m)).isSome=true:=by
  unfold lookIn;dsimp only;split
  ·rfl
  ·refine rl (if_neg (by refine rl r.strs ?_;decide)) ?_;rfl
 have F:takerIn K (ik c) (nm x)=some none:=by unfold takerIn;refine rl (t.Nq x j) ?_;rfl
 refine GC (H.qX X) I rfl (by unfold plainOver;exact rl e J) F (rl e d) L (PySem.putName_eq ..) rfl ?_ rfl λh' N B=>?_
 ·have:=(r.put u o (hs:=PyData.keyHash w.params (nm x)) (tk:=s.toks+1)).len;refine rl this ?_;have:=vd (x:=x) (v:=V') (fs:=fs);exact Ke l this
 ·exact q h' _ B (H.write y z rfl B ⟨a,b,_,_,N,r.put u o⟩ rfl)
theorem dI.wrote(V:Vr op f as env h ρ)(d:p∈as)(e:∀b,b≠p.2→h'.get? b=h.get? b)(H:Hp h₀ f as h' σ'):dI h₀ op env f as h ρ σ' f as h':=
 ⟨⟨f.le_refl,λb o z g c=>(e b λw=>g (List.mem_append_left _ (List.mem_map.mpr ⟨p,d,w.symm⟩))).trans z,λc c z=>.inl z⟩,H,V.go λa i o z=>(e a λw=>V.apart p d (w▸i)).trans z,[],by simp,λc z=>nomatch z⟩
theorem qy(G:h8 K mg mb h₀ sg)(o:vG w h₀ n env op op value (wC C t))(hs:swapsWith value (some (.Attribute (.Name (nm x) Oi) (nm y) pos')) pos.line env=pure false):
  cR w h₀ n env op op (exec (.Assign [.Attribute (.Name (nm x) Oi) (nm y) pos'] value pos) env) (fZ C (.yC x y t)):=by
 refineλρ σ F ρ' σ' e=>au e λd σ1 m e=>az e λk j e=>au e λc fs z e=>aS e λg e=>?_;simp only[Bool.and_eq_true]at g;refine three e ?_;refineλA f as s Q E R H V q=>plainObj_wpAny_Assign_Attribute (o ρ σ d σ1 m A f as s _ E R H V λf1 h1 r v a o1=>?_) hs;refine eI a.vr (mG j) λu i=>ay i λp l b=>?_;clear o hs m j e R H V i;subst b;exact lH (V':=.d d) G.X G.cls a.hp l (ki z) g.1 (Nat.blt_eq.mp g.2) o1 λh' tk B D=>q f1 as h' tk _ ((dI.of a).trans (dI.wrote a.vr (List.mem_of_getElem? l) B D)) .next
theorem tH(G:h8 K mg mb h₀ sg)(N:aY w h₀ n env op op value (aH C t)):
  cR w h₀ n env op op (exec (.AugAssign (.Attribute (.Name (nm x) Oi) (nm y) pos') .Add value pos) env) (fZ C (.su x y t)):=by
 refineλρ σ T ρ' σ' e=>az e λk z e=>au e λc fs I e=>az e λi F e=>au e λj σ1 L e=>au e λc' D o e=>aS e λb e=>?_;simp only[Bool.and_eq_true]at b;refine three e ?_;refineλA f as s Q E R H V q=>wpAny_AugAssign_AttributeAny (eI V (mG z) λu v=>?_);refine ay v λp m d=>?_;clear z e v;subst d;have J:xV σ (.loc k) y=some (.d (.int i)):=aR (ki I) (bI b.1 (yk F));refine pO G.X G.cls H J ⟨p,m,rfl⟩ λB l a=>?_;obtain⟨S,rfl⟩:=bP.jy a;refine N ρ σ _ σ1 (gM L) A f as {s with toks:=l} _ E R H V λf1 h1 g u r o1=>?_;obtain⟨P,rfl⟩:=bP.jy o1;exact iadd_int (lH (s:={s with heap:=h1,toks:=g+1}) (V':=.d (.int (i+j))) G.X G.cls r.hp m (ki o) b.2.1 (Nat.blt_eq.mp b.2.2) (.int _ _) λh' tk M O=>q f1 as h' tk _ ((dI.of r).trans (dI.wrote r.vr (List.mem_of_getElem? m) M O)) .next)
theorem vg(G:h8 K mg mb h₀ sg)(hs:swapsWith (.Dict [] [] tJ) (some (.Attribute (.Name (nm x) Oi) (nm y) pos')) pos.line env=pure false):
  cR w h₀ n env op op (exec (.Assign [.Attribute (.Name (nm x) Oi) (nm y) pos'] (.Dict [] [] tJ) pos) env) (fZ C (.xh x y)):=by
 refineλρ σ J ρ' σ' e=>az e λk r e=>au e λc fs v e=>aS e λi e=>?_;simp only[Bool.and_eq_true]at i;refine three e ?_;refineλA f as s Q E R H V q=>plainObj_wpAny_Assign_Attribute (wpAny_Dict_empty ?_) hs;have d:∀b o',s.heap.get? b=some o'→(s.heap.push (dm [] 0)).get? b=some o':=λb o' e=>Heap.get?_push_of_some _ e;have a:s.heap.get? s.heap.objs.size=none:=aq (Nat.le_refl _);have z:Hp h₀ f (as++[(s.heap.objs.size,s.heap.objs.size)]) (s.heap.push (dm [] 0)) (σ++[.dct []]):=
  H.mL (o:=dm [] 0) d a ⟨rfl,(H.off a).1,[],0,Heap.get?_push_size _ rfl,List.nodup_nil,.nil⟩ rfl
 have l:Vr op f (as++[(s.heap.objs.size,s.heap.objs.size)]) env (s.heap.push (dm [] 0)) ρ:=(V.step0 (Step.keeps d)).more (V.off a);have F:dI h₀ op env f as s.heap ρ (σ++[.dct []]) f (as++[(s.heap.objs.size,s.heap.objs.size)]) (s.heap.push (dm [] 0)):=⟨Step.keeps d,z,l,_,rfl,λq B=>rl (List.mem_singleton.mp B) a⟩;refine eI l (mG r) λu m=>ay m λp t g=>?_;clear hs r e R V d a m;subst g;have j:(σ++[Cell.dct []])[k]? =some (.inst c fs):=by refine rl (List.getElem?_append_left (List.getElem?_eq_some_iff.mp (ki v)).1) ?_;exact ki v
 refine lH (V':=.loc σ.length) G.X G.cls z t j i.1 (Nat.blt_eq.mp i.2) ⟨(s.heap.objs.size,s.heap.objs.size),by refine rr H.len ?_;simp,rfl⟩ λh' tk D I=>?_;exact q f _ h' tk _ (F.trans (dI.wrote l (List.mem_of_getElem? t) D I)) .next
theorem wU(g:Array Value→Array Value)(vs:List Value)(m:Nat):∃m',Obj.mapSeq g (dR vs m)=dR (g vs.toArray).toList m':=⟨_,rfl⟩
theorem xm(H:Hp h₀ f as s.heap σ)(D:as[k]? =some p)(G:σ[k]? =some (.lst l))(N:idx j l.length=some m)(O:fits j.natAbs=true)(o:bP f v d)
  (q:∀h' tk,(∀b,b≠p.2→h'.get? b=s.heap.get? b)→Hp h₀ f as h' (σ.set k (.lst (l.set m d)))→Q () {s with heap:=h',toks:=tk}):wpAny (model P0 w) A (setItem (.ref p.1) (.int j t) v) Q E s:=by
 refine bR (H.cells _ _ _ D G) λa b J=>cJ J λvs z g r=>bR (oi N) λi M B=>?_;have c:=mq O;have e:Q () {s with heap:=s.heap.update p.1 (Obj.mapSeq (λx=>x.setIfInBounds m v))}:=by
  refine aT (wU (λx=>x.setIfInBounds m v) vs z) λL F=>?_;have R:(s.heap.update p.1 (Obj.mapSeq (λx=>x.setIfInBounds m v))).get? p.1=some (dR (vs.set m v) L):=by refine rl (Heap.get?_update_self _ (a▸g) (by refine rl F ?_;rfl)) ?_;refine rl F ?_;simp
  have I:∀b,b≠p.2→(s.heap.update p.1 (Obj.mapSeq (λx=>x.setIfInBounds m v))).get? b=s.heap.get? b:=λb P=>Heap.get?_update_ne _ _ _ _ (a▸P);exact q _ s.toks I (H.write D G rfl I ⟨a,b,_,_,rr a R,r.set o⟩ rfl)
 refine Or.elim B (λi=>?_) λi=>?_
 ·refine a9 i λy u=>ki_setAt (a▸g) y c.2 (by simp[r.length];exact IC M u) ?_;exact rr u e
 ·refine bR i λy u K=>ki_setBack (a▸g) y (by simp[r.length];exact KN u) c.1 ?_;have:(vs.toArray.size:Int)=(l.length:Int):=by simp[r.length]
  refine rl this (rr K ?_);exact e
theorem nc:∀{l:List (Int×D)},(l.map (λx=>x.1)).Nodup→((fm l k v).map (λx=>x.1)).Nodup
 |[],_=>by simp[fm]
 |p::r,b=>by
  simp only[List.map_cons,List.nodup_cons]at b;unfold fm;by_cases h:p.1=k
  ·simp only[h,decide_true,List.map_cons,List.nodup_cons];exact rr h b
  ·simp only[decide_eq_false h,List.map_cons,List.nodup_cons];refine⟨λz=>?_,nc b.2⟩;have:∀(l:List (Int×D)),p.1∈(fm l k v).map (λx=>x.1)→p.1∈l.map (λx=>x.1)∨p.1=k:=by
    intro l;induction l with
    |nil=>intro z;simp[fm]at z;exact .inr z
    |cons a l d=>
     intro z;unfold fm at z;by_cases c:a.1=k
     ·simp only[c,decide_true,List.map_cons,List.mem_cons]at z;rcases z with z|z
      ·exact .inr z
      ·exact .inl (List.mem_cons_of_mem _ z)
     ·simp only[decide_eq_false c,List.map_cons,List.mem_cons]at z;rcases z with z|z
      ·exact .inl (rl z (.head _))
      ·exact(d z).imp (λw=>.tail _ w) id
   refine Or.elim (this r z) (λw=>?_) λw=>?_
   ·exact b.1 w
   ·exact h w
theorem lQ.stored(o:bP f v d):∀{kvs:List (Int×Value)} {l:List (Int×D)},(l.map (λx=>x.1)).Nodup→lQ f kvs l→lQ f (PySem.stored kvs k v) (fm l k d):=by
 have p:∀{kvs:List (Int×Value)} {l:List (Int×D)},(l.map (λx=>x.1)).Nodup→lQ f kvs l→lQ f (if kvs.any (λc=>c.1=k)then kvs.map (λc=>if c.1=k then(c.1,v)else c)else kvs++[(k,v)]) (fm l k d):=by
  intro kvs l m r;induction r with
  |nil=>exact .cons o .nil
  |@cons i u e es l a r q=>
   simp only[List.map_cons,List.nodup_cons]at m;have j:∀{es:List (Int×Value)} {l:List (Int×D)},lQ f es l→k∉l.map (λx=>x.1)→(es.map (λc=>if c.1=k then(c.1,v)else c))=es:=by
    intro es l r;induction r with
    |nil=>intro _;rfl
    |@cons i u e es l a r q=>intro z;rw[List.map_cons,List.mem_cons,not_or]at z;refine rl List.map_cons (rl (q z.2) ?_);refine rl (if_neg (Ne.symm z.1)) ?_;rfl
   by_cases h:i=k
   ·subst h;have t:fm ((i,e)::l) i d=(i,d)::l:=by unfold fm;simp
    refine rl t (rl (if_pos (by simp)) ?_);refine rl List.map_cons (rl (if_pos rfl) ?_);refine rl (j r m.1) ?_;exact .cons o r
   ·have t:fm ((i,e)::l) k d=(i,e)::fm l k d:=by show(match decide (i=k)with |true=>_|false=>_)=_;refine rl (decide_eq_false h) ?_;rfl
    refine rl t ?_;have g:=q m.2;by_cases b:(es.any λc=>c.1=k)=true
    ·rw[if_pos b]at g;refine rl (if_pos (by simp only[List.any_cons,b,Bool.or_true])) (rl List.map_cons ?_);refine rl (if_neg h) ?_;exact .cons a g
    ·rw[if_neg b]at g;refine rl (if_neg (by simp only[List.any_cons,decide_eq_false h];exact b)) ?_;refine rl List.cons_append ?_;exact .cons a g
 exactλkvs l m r=>p m r
theorem xj(H:Hp h₀ f as s.heap σ)(m:as[k]? =some p)(u:σ[k]? =some (.dct l))(F:fits l.length=true)(o:bP f v d)
  (q:∀h' tk,(∀b,b≠p.2→h'.get? b=s.heap.get? b)→Hp h₀ f as h' (σ.set k (.dct (fm l j d)))→Q () {s with heap:=h',toks:=tk}):wpAny (model P0 w) A (setItem (.ref p.1) (.int j t) v) Q E s:=by
 refine bR (H.cells _ _ _ m u) λa b y=>fP y λK z g i r=>ay (dB (w:=w) g i r) λkvs I x=>rl a ?_;refine wpAny_setItem_pairs (intKind_is P0 w j t) I (λh' J S=>?_) (by refine rl x.length ?_;exact dX F);exact fP (ni J (x.stored o i)) λe B G c D=>q h' _ S.2 (H.write m u rfl S.2 ⟨a,b,e,B,G,c,D⟩ rfl)
theorem dW(Hd:vG w h₀ n env op op value (wC C t))(Ha:aY w h₀ n env op op a (aH C ta))(Z:aY w h₀ n env op op i (aH C ti))
  (hs:swapsWith value (some (.Subscript a i pos')) pos.line env=pure false):cR w h₀ n env op op (exec (.Assign [.Subscript a i pos'] value pos) env) (fZ C (.jv ta ti t)):=by
 refineλρ σ fl ρ' σ' e=>au e λd σ1 Y e=>au e λk σ2 X e=>au e λj o W e=>az e λc U e=>az e λc' g e=>three e λA f as s Q E R H V q=>wpAny_Assign_Subscript (Hd ρ σ d σ1 Y A f as s _ E R H V λf1 h1 L v P o1=>Ha ρ σ1 _ σ2 (GA X) A f1 as {s with heap:=h1,toks:=L} _ E R P.hp P.vr λf2 h2 K u G o2=>
  Z ρ σ2 _ o (gM W) A f2 as {s with heap:=h2,toks:=K} _ E R G.hp G.vr λT N r y F S=>?_) hs
 refine aT (bP.jy S) λt3 J=>?_;clear Hd Ha Z hs Y X W e R H V S;subst J;refine ay o2 λp O I=>?_;clear e o2;subst I;have x:=bP.mono (G.step.le.trans F.step.le) o1;have z:∀h' tk,(∀b,b≠p.2→h'.get? b=N.get? b)→Hp h₀ T as h' (o.set k c')→Q .next {s with heap:=h',toks:=tk}:=λh' tk B D=>q T as h' tk _ ((dI.of ((P.trans G).trans F)).trans (dI.wrote F.vr (List.mem_of_getElem? O) B D)) .next
 cases c with
 |lst l=>exact az g λm hm g=>aS g λM g=>xm (s:={s with heap:=N,toks:=r}) F.hp O U hm M x λh' tk B D=>z h' tk B (one g D)
 |dct l=>exact aS g λM g=>xj (s:={s with heap:=N,toks:=r}) F.hp O U M x λh' tk B D=>z h' tk B (one g D)
 |inst _ _=>exact no g
 |eE _=>exact no g
theorem g9(Hd:vG w h₀ n env op op value (wC C t))(K:interactive env=false)(hs:swapsWith (.Call (.Attribute (.Name (nm x) np) "append" apos) [value] [] pos) none pos2.line env=pure false)
  (i:attributeBase (.Name (nm x) np) "append" env (eval (.Name (nm x) np) env)=eval (.Name (nm x) np) env)(c:(apos.endLine==pos.line)=true)(L:starEach [value] env=[(false,eval value env)]):
  cR w h₀ n env op op (exec (.Expr (.Call (.Attribute (.Name (nm x) np) "append" apos) [value] [] pos) pos2) env) (fZ C (.app x t)):=by
 refineλρ σ fl ρ' σ' e=>az e λk M e=>az e λl0 G e=>au e λd σ1 e1 e=>az e λl N e=>aS e λW e=>three e ?_;intro A f as s Q E R H V q;have F:backTo pos (starEach [value] env)=[(false,eval value env)]:=by refine rl L ?_;rfl
 refine wpAny_Expr_any (wpAny_Call_append i (by refine rl F ?_;rfl) c F (eI V (mG M) λu J=>?_)) K hs;refine ay J λp j o=>?_;clear K hs i c L M e F J;subst o;refine bR (H.cells _ _ _ j (n6 G)) λa0 b0 y=>cJ y λB P Z r0=>(fu p.1 B.toArray ⟨rfl,(fu _ P ⟨a0▸Z,rfl,rfl,rfl⟩),?_⟩);refine Hd ρ σ d σ1 e1 A f as s _ E R H V λf1 h1 D v m o1=>bR (m.hp.cells _ _ _ j (n6 N)) λa b y=>cJ y λvs z g r=>wpAny_list_append_plain ⟨z,a▸g⟩ (λh' U S=>?_) (by simp[r.length];exact dX W);refine aT U λT g'=>?_;have Y:h'.get? p.2=some (dR (vs++[v]) T):=by simp only[←a,g'];simp
 have O:∀b,b≠p.2→h'.get? b=h1.get? b:=λb X=>S.2 b (a▸X);exact q f1 as h' D _ ((dI.of m).trans (dI.wrote m.vr (List.mem_of_getElem? j) O (m.hp.write j (n6 N) rfl O ⟨a,b,_,_,Y,r.append (.cons o1 .nil)⟩ rfl))) .next
end
noncomputable def lz(elt:Expr)(gens:List Comprehension)(scope:Scope)(pos:Pos)(depth:Nat)(acc:Value)(env:Env):PySem.Sem Unit:=match gens[depth]? with
 |some g'=>do
  let x←eval g'.iter env
  standAt g'.iter.pos
  let x←foldedSetIterable g'.iter env x;let it←holding [x] (pyIter x);let _←runOwn (.compStart (.ListComp elt gens scope pos) depth it acc env) env
  pure ()
 |none=>do
  let y←eval elt env;let _←call (.builtin "list.append") [acc,y]
  pure ()
noncomputable def oE(ifs:List Expr)(env:Env):PySem.Sem Bool:=forIn ifs true λc ok=>if ok=true then do let ok←PySem.isTrue c env (eval c env);pure (ForInStep.yield ok)else pure (ForInStep.yield ok)
section
variable{w:World}{A:Around}{s:Shared}{R:Result→Shared→Prop}
theorem kW{g:Comprehension}(D:gens[depth]? =some g)(G:(g.is_async !=0)=false)(B:∀g',gens[depth+1]? =some g'→(g'.is_async !=0)=false)
  (I:Nat→Shared→Prop)
  (q:∀n s,I n s→wpAny (model P0 w) A (pyNext it) (λr j=>match r with
   |none=>R (.ok .next) j
   |some v=>wpAny (model P0 w) A (letOwnedTupleGo g.target it v) (λb o=>wpAny (model P0 w) A (assign g.target env v) (λb l=>wpAny (model P0 w) A (oE g.ifs env) (λy i=>
     if y=true then wpAny (model P0 w) A (lz elt gens scope pos (depth+1) acc env) (λb c=>∃m,m<n∧I m c) (notedBy (model P0 w) A env λe d=>R (.error e) d) i else∃m,m<n∧I m i)
     (notedBy (model P0 w) A env λe d=>R (.error e) d) l) (notedBy (model P0 w) A env λe d=>R (.error e) d) o) (notedBy (model P0 w) A env λe d=>R (.error e) d) j) (notedBy (model P0 w) A env λe d=>R (.error e) d) s)
  (n:Nat)(h:I n s):codeAny (model P0 w) A (.compLoop (.ListComp elt gens scope pos) depth it acc env) R s:=by
 refine codeAny_loop rfl I (λn s H=>?_) n h;refine wpAny_noted ?_;unfold compTurn;simp only[D,G];refine wpAny_bind (wpAny_standAt (wpAny_bind (wpAny_mono (q n s H) (λr j p=>?_) λb b h'=>h')));cases r with
 |none=>exact wpAny_pure p
 |some v=>
  refine wpAny_bind (wpAny_mono p (λb o x=>wpAny_bind (wpAny_mono x (λb l u=>wpAny_bind (wpAny_mono u (λy i a=>?_) λb b h'=>h')) λb b h'=>h')) λb b h'=>h');cases y with
  |false=>rw[if_neg (by decide)]at a⊢;exact wpAny_pure ⟨rfl,a⟩
  |true=>
   rw[if_pos rfl]at a⊢;unfold lz at a;cases Pe:gens[depth+1]? with
   |none=>replace a:=Pe▸a;exact wpAny_bind (wpAny_mono a (λb c k=>wpAny_pure ⟨rfl,k⟩) λb b h'=>h')
   |some g'=>
    rw[Pe]at a;have F:=B g' Pe;simp only[F];have t:=wpAny_bind (wpAny_mono (Q':=λb c=>wpAny (model P0 w) A (again (.compLoop (.ListComp elt gens scope pos) depth it acc env)) (λz d=>match z with
     |Fin.done f=>R (Except.ok f) d
     |Fin.again c'=>c'= .compLoop (.ListComp elt gens scope pos) depth it acc env∧∃m,m<n∧I m d) (notedBy (model P0 w) A env λe d=>R (.error e) d) c) a (λb c k=>wpAny_pure ⟨rfl,k⟩) λb b h'=>h')
    simp only[bind_assoc]at t;exact t
theorem gZ(e:gens[depth]? =some g)(i:(g.is_async !=0)=false)
  (j:codeAny (model P0 w) A (.compLoop (.ListComp elt gens scope pos) depth it acc env) R s)
  (h:wpAny (model P0 w) A (pyIter it) (λa b=>codeAny (model P0 w) A (.compLoop (.ListComp elt gens scope pos) depth a acc env) R b) (notedBy (model P0 w) A env λx b=>R (.error x) b) s):
  codeAny (model P0 w) A (.compStart (.ListComp elt gens scope pos) depth it acc env) R s:=by
 refine codeAny_of_tree ?_;refine wpAny_notedAt ?_;unfold compStart;have c:(clausesOf (.ListComp elt gens scope pos))[depth]? =some g:=e;simp only[c,Option.elim,i];refine wpAny_bind (wpAny_askSetting (wpAny_ite ?_));split
 ·exact wpAny_bind (wpAny_pure (wpAny_pure (And.intro rfl j)))
 ·exact wpAny_bind (wpAny_rule (wpAny_bind (wpAny_standAt (wpAny_bind (wpAny_mono h (λa b h'=>wpAny_pure (And.intro rfl h')) λd d x=>x)))))
end
section
variable{w:World}{h₀ h h' h1 h2 hp:Heap}{f f' f1 f2:PM}{as lU nG:List (Addr×Addr)}{σ σ' σ1 σ2:ak}{A:Around}{E:Value→Shared→Prop}{s:Shared}{n:Nat}{env:Env}{op dU jD:Bool}{C:Mine.Sem}{ρ jw tL:aB}{wr:List Addr}{D0:Addr}
structure gf(h₀:Heap)(D0:Addr)(op:Bool)(env:Env)(f:PM)(as:List (Addr×Addr))(h:Heap)(ρ:aB)(σ':ak)(f':PM)(h':Heap):Prop where
 step:Step f h (as.map (λx=>x.2)++Env.adr env++[D0]) (Env.qK env) f' h'
 hp:Hp h₀ f' as h' σ'
 vr:Vr op f' as env h' ρ
 free:dG f' as env h' D0
theorem gf.trans(a:gf h₀ D0 op env f as h jw σ1 f1 h1)(b:gf h₀ D0 op env f1 as h1 tL σ2 f2 h2):gf h₀ D0 op env f as h tL σ2 f2 h2:=⟨a.step.trans b.step,b.hp,b.vr,b.free⟩
theorem gf.of(R:dI h₀ op env f as h jw σ1 f1 as h1)(F:dG f as env h D0):gf h₀ D0 op env f as h jw σ1 f1 h1:=⟨R.step.wide (λa q=>List.mem_append_left _ q) λa q=>q,R.hp,R.vr,(F.GH R).1⟩
theorem gf.congr(a:gf h₀ D0 op env f as h jw σ1 f1 h1)(c:∀y x,tL.lookup y=some x→jw.lookup y=some x):gf h₀ D0 op env f as h tL σ1 f1 h1:=⟨a.step,a.hp,a.vr.congr c,a.free⟩
theorem dG.GI(F:dG f as env h b)(R:gf h₀ D0 op env f as h jw σ1 f1 h1)(g:b≠D0):dG f1 as env h1 b∧h1.get? b=h.get? b:=by
 refine aT F.at_ λo c=>?_;have d:b∉as.map (λx=>x.2)++Env.adr env++[D0]:=λq=>by
  refine Or.elim (List.mem_append.mp q) (λq=>?_) λq=>?_
  ·exact(List.mem_append.mp q).elim F.as F.adr
  ·exact g (List.mem_singleton.mp q)
 have k:=R.step.keep b o c d F.tab;refine⟨⟨?_,⟨o,k⟩,F.as,F.adr,F.tab⟩,k.trans c.symm⟩;cases z:f1 b with
 |none=>rfl
 |some e=>
  refine Or.elim (R.step.new b e z) (λq=>?_) λa=>Or.elim a (λq=>?_) λa=>Or.elim a (λq=>?_) λa=>Or.elim a (λq=>?_) λq=>?_
  ·rw[F.off]at q;exact no q
  ·rw[c]at q;exact on q
  ·exact absurd q d
  ·exact absurd (List.mem_cons_of_mem _ q) F.adr
  ·exact absurd q F.tab
theorem gf.ux(R:gf h₀ D0 op env f as hp jw σ1 f1 h1)(k:∀b o,b∉wr→h1.get? b=some o→h'.get? b=some o)(F:∀b∈wr,dG f1 as env h1 b∧b≠D0)(d:∀b∈wr,hp.get? b=none):gf h₀ D0 op env f as hp jw σ1 f1 h':=
 ⟨⟨R.step.le,λb o e c g=>k b o (λz=>by rw[d b z]at e;exact no e) (R.step.keep b o e c g),R.step.new⟩,R.hp.free k (λb c=>(F b c).1),R.vr.go λa i o e=>k a o (λz=>(F a z).1.adr i) e,
  ⟨R.free.off,let⟨o,e⟩:=R.free.at_;⟨o,k D0 o (λz=>(F D0 z).2 rfl) e⟩,R.free.as,R.free.adr,R.free.tab⟩⟩
theorem gf.app(H:Hp h₀ f as h σ)(V:Vr op f as env h ρ)(F:dG f as env h D0)(e:∀b,b≠D0→h'.get? b=h.get? b)(i:∃o,h'.get? D0=some o):gf h₀ D0 op env f as h ρ σ f h':=
 ⟨⟨f.le_refl,λb o z d c=>(e b λw=>d (List.mem_append_right _ (List.mem_singleton.mpr w))).trans z,λc c z=>.inl z⟩,H.but e F.off (λp hp z=>F.as (List.mem_map.mpr ⟨p,hp,z⟩)) F.tab,
  V.go λa g o z=>(e a λw=>F.adr (w▸g)).trans z,⟨F.off,i,F.as,F.adr,F.tab⟩⟩
noncomputable def Acc(f:PM)(h:Heap)(D0:Addr)(acc:List D):Prop:=∃ys m,h.get? D0=some (dR ys m)∧bQ f ys acc
theorem Acc.mono(a:Acc f h D0 acc)(l:f.le f')(e:h'.get? D0=h.get? D0):Acc f' h' D0 acc:=let⟨ys,m,g,r⟩:=a;(fu ys m ⟨e.trans g,r.mono l⟩)
noncomputable def Aw(w:World)(h₀:Heap)(n:Nat)(env:Env)(op:Bool)(tg:List Nat)(inner:Value→PySem.Sem Unit)(ev:aB→ak→List D→Option (List D×ak)):Prop:=
 ∀(ρ:aB) (σ:ak) (acc acc':List D) (σ':ak),ev ρ σ acc=some (acc',σ')→(∀x∈tg,ρ.lookup x=none)→∀(A:Around) (f:PM) (as:List (Addr×Addr)) (D0:Addr) (s:Shared) (Q:Unit→Shared→Prop) (E:Value→Shared→Prop),
  bO A n→Hp h₀ f as s.heap σ→Vr op f as env s.heap ρ→dG f as env s.heap D0→Acc f s.heap D0 acc→
  (∀f' h' tk,gf h₀ D0 op env f as s.heap ρ σ' f' h'→Acc f' h' D0 acc'→Q () {s with heap:=h',toks:=tk})→wpAny (model P0 w) A (inner (.ref D0)) Q E s
noncomputable def QV(w:World)(h₀:Heap)(n:Nat)(env:Env)(op:Bool)(ifs:List Expr)(ρ:aB)(σ:ak)(b:Bool)(σ':ak):Prop:=
 ∀(A:Around) (f:PM) (as:List (Addr×Addr)) (s:Shared) (Q:Bool→Shared→Prop) (E:Value→Shared→Prop),bO A n→Hp h₀ f as s.heap σ→Vr op f as env s.heap ρ→
  (∀f' h' tk,cH h₀ op env f as s.heap ρ σ' f' h'→Q b {s with heap:=h',toks:=tk})→wpAny (model P0 w) A (oE ifs env) Q E s
noncomputable def oO(w:World)(h₀:Heap)(n:Nat)(env:Env)(op:Bool)(ifs:List Expr)(ev:aB→ak→Option (Bool×ak)):Prop:=
 ∀(ρ:aB) (σ:ak) (b:Bool) (σ':ak),ev ρ σ=some (b,σ')→QV w h₀ n env op ifs ρ σ b σ'
theorem bF:oO w h₀ n env op [] (dJ C .nil):=λρ σ b σ' e=>two e (λA f as s Q E R H V q=>wpAny_pure (q f s.heap s.toks (.refl H V)))
theorem gU(i:mU w h₀ n env op op c (λρ σ=>lV (aH C tc ρ σ))):oO w h₀ n env op [c] (dJ C (.cons tc .nil)):=by
 intro ρ σ b σ' e;have g:lV (aH C tc ρ σ)=some (b,σ'):=au e λq k d e=>by cases q<;>exact two e d
 intro A f as s Q E R H V q;unfold oE;rw[List.forIn_cons];refine rl (if_pos rfl) ?_;refine wpAny_bind (wpAny_bind (i ρ σ b σ' g A f as s _ E R H V λf1 h1 a j=>wpAny_pure ?_));simp only[List.forIn_nil];exact wpAny_pure (q f1 h1 a j)
theorem xn(p:gens[depth]? =none)(I:aY w h₀ n env op op elt (aH C te)):
  Aw w h₀ n env op [] (λacc=>lz elt gens scope pos depth acc env) (λρ σ acc=>vB C (aH C te) .nil ρ ρ σ acc):=by
 intro ρ σ acc j σ' e _ A f as D0 s Q E R H V F L q
 revert q
 refine au e λv σ1 D e=>au e λx σ2 B e=>aS e λt e=>two e λq=>?_;unfold lz;refine rl p ?_;refine wpAny_bind (I ρ σ v σ1 D A f as s _ E R H V λf1 h1 b y d o1=>?_);refine bG (d.hp.toD B o1) λf2 J G K=>?_;have c:=d.trans (cH.of d.vr G J);have a:=gf.of (dI.of c) F;have z:=(F.GH (dI.of c)).2;refine cJ (L.mono c.step.le z) λk m g r=>wpAny_bind (wpAny_list_append_plain ⟨m,g⟩ (λh' l S=>?_) (by simp[r.length];exact dX t));refine aT l λo u=>?_;have i:h'.get? D0=some (dR (k++[y]) o):=by refine rl u ?_;simp
 exact wpAny_pure (q f2 h' b (a.trans (gf.app a.hp a.vr a.free S.2 ⟨_,i⟩)) (fu _ _ ⟨i,r.append (.cons K .nil)⟩))
theorem zG{ds:List D}{st:α}(e:jt g (ds.drop i) st=some r)(b:i<ds.length):∃d st',ds[i]? =some d∧g d st=some st'∧jt g (ds.drop (i+1)) st'=some r:=by rw[List.drop_eq_getElem_cons b]at e;exact az e λst' c e=>(fu _ st' ⟨List.getElem?_eq_getElem b,c,e⟩)
theorem oZ{xs:List Nat}(e:cD xs d ρ=some ρ')(c:y∉xs):ρ'.lookup y=ρ.lookup y:=by
 by_cases b:∃z,xs=[z]
 ·obtain⟨z,rfl⟩:=b;simp only[cD]at e;refine one e ?_;refine rl iy (rl (if_neg (by simpa using c)) ?_);rfl
 ·refine bG (lq e λz q=>b ⟨z,q⟩) λl g i a=>?_;clear e b g;subst a;exact j0 (rl (tK (by simp[i])) c)
theorem mark_none:A.mark none=A:=by cases A;rfl
set_option tactic.hygienic true in
theorem rf{r:List Comprehension}{l:Nat}{g:Comprehension}{St:Nat→Heap→Prop}
  (hg:r[l]? =some g)(ha:(g.is_async !=0)=false)(Of:∀g',r[l+1]? =some g'→(g'.is_async !=0)=false)
  (S:Src (fr:=fr) w A g.target pl f ds I fp wr P Md St)(MS:∀b∈fr,dG f as env hp b∧b≠D0)(T:lT w h₀ n env op pl xs g.target)(Ht:oO w h₀ n env op g.ifs et)
  (QU:Aw w h₀ n env op tg (λacc=>lz elt r scope pos (l+1) acc env) ek)(Ph:∀x∈xs,x∉tg)(av:∀x∈xs++tg,ρ.lookup x=none)(Rm:bO A n)
  (H:Hp h₀ f as hp σ)(V:Vr op f as env hp ρ)(F:dG f as env hp D0)(Ac:Acc f hp D0 acc)(kp:∀b o,hp.get? b=some o→s.heap.get? b=some o)(n0:∀b∈wr,hp.get? b=none)(W:St 0 s.heap)
  (e:jt (pg xs ρ et ek) ds (acc,σ)=some (acc',σ'))
  (q:∀f' h' tk,gf h₀ D0 op env f as hp ρ σ' f' h'→Acc f' h' D0 acc'→R (.ok .next) {s with heap:=h',toks:=tk}):
  codeAny (model P0 w) A (.compLoop (.ListComp elt r scope pos) l (.ref I) (.ref D0) env) R s:=by
 have dn:∀b∈wr,b≠D0:=λb c z=>by refine aT F.at_ λo Y=>?_;rw[←z,n0 b c]at Y;exact no Y
 have QI:=gf.of (dI.keeps H V kp) F;have PO:Acc f s.heap D0 acc:=by exact cJ Ac λys m g0 r0=>(fu ys m ⟨kp _ _ g0,r0⟩)
 refine kW hg ha Of
  (λk s'=>∃qL fi hi vC tS,∃i:Nat,s'={s with heap:=hi,toks:=vC}∧gf h₀ D0 op env f as hp ρ qL fi hi∧(∀b∈wr,dG fi as env hi b∧b≠D0)∧St i hi∧Acc fi hi D0 tS∧i≤ds.length∧k=ds.length+1-i∧
   jt (pg xs ρ et ek) (ds.drop i) (tS,qL)=some (acc',σ'))
  ?_ (ds.length+1) (HR σ f s.heap s.toks acc 0 ⟨rfl,QI,λb c=>⟨dG.of H V (n0 b c) (S.stands 0 _ W b c),dn b c⟩,W,PO,Nat.zero_le _,rfl,e⟩)
 intro k s' QN;refine OG QN λqL fi hi vC tS i SJ Ri O QL PS hle PJ ei=>?_;clear QN;subst SJ;subst PJ;by_cases u:i<ds.length
 ·refine fP (zG ei u) λd st' ed X en=>?_;obtain⟨B,σ2⟩:=st';refine S.turns.item i _ _ _ u QL λv h1 Q Od k1=>S.turns.go i v _ _ _ Od λh2 hP U k2=>?_;have J:∀b o,b∉wr→hi.get? b=some o→h2.get? b=some o:=λb o c x=>k2 b o c (k1 b o c x);have G:=Ri.ux J O n0;have F2:∀b∈wr,dG fi as env h2 b:=λb c=>⟨(O b c).1.off,S.stands _ _ U b c,(O b c).1.as,(O b c).1.adr,(O b c).1.tab⟩;have PP:Acc fi h2 D0 tS:=by exact cJ PS λys m g0 r0=>(fu ys m ⟨J _ _ (λz=>(O D0 z).2 rfl) g0,r0⟩)
  refine az X λjw eb X=>au X λb Z eq X=>T A fi as qL ρ jw {s with heap:=h2,toks:=Q} v d _ _ Rm G.hp G.vr eb (S.item i v h2 fi d hP G.step.le G.hp.on ed) λh3 N6 R3=>?_;have K:=gf.of R3 G.free;have PR:=PP.mono fi.le_refl (G.free.GH R3).2;have N:∀y x,ρ.lookup y=some x→jw.lookup y=some x:=λy x z=>by rw[oZ eb λhy=>?_];exact z;rw[av y (List.mem_append_left _ hy)]at z;exact no z
  have p:∀(f4:PM) (M:Heap) (t:Tok),gf h₀ D0 op env fi as h2 jw σ2 f4 M→Acc f4 M D0 B→∃m,m<ds.length+1-i∧∃qL fi hi vC tS,∃i:Nat,({s with heap:=M,toks:=t}:Shared)={s with heap:=hi,toks:=vC}∧gf h₀ D0 op env f as hp ρ qL fi hi∧(∀b∈wr,dG fi as env hi b∧b≠D0)∧St i hi∧Acc fi hi D0 tS∧i≤ds.length∧m=ds.length+1-i∧
    jt (pg xs ρ et ek) (ds.drop i) (tS,qL)=some (acc',σ'):=λf4 M t D L=>by
   refine⟨ds.length+1-(i+1),vU u,σ2,f4,M,t,B,i+1,rfl,G.trans (D.congr N),λb c=>⟨((F2 b c).GI D (dn b c)).1,dn b c⟩,S.turns.frame _ _ _ U λb c o Y=>?_,L,u,rfl,en⟩;refine Or.elim (S.known b c) (λz=>?_) λzz=>Or.elim zz (λzz=>?_) λz=>?_
   ·exact rl (((F2 b z).GI D (dn b z)).2) Y
   ·refine aT zz λo' z=>?_;have z2:=G.step.le _ _ z;have:=G.hp.on _ _ z2;replace this:=Y▸this;cases this;exact D.hp.on _ _ (D.step.le _ _ z2)
   ·refine a9 (MS b z) λF0 QJ=>a9 (F0.GI Ri QJ) λF1 zz=>?_;have So:b∉wr:=λw=>by refine aT F0.at_ λo' P6=>?_;rw[n0 b w]at P6;exact no P6
    refine aT F1.at_ λo1 RI=>?_;have QR:dG fi as env h2 b:=⟨F1.off,⟨o1,J b o1 So RI⟩,F1.as,F1.adr,F1.tab⟩;exact rl ((QR.GI D QJ).2) Y
  refine Ht jw qL b Z eq A fi as {s with heap:=h3,toks:=N6} _ _ Rm R3.hp R3.vr λf4 M t A4=>?_;have D:=K.trans (gf.of (dI.of A4) K.free);have L:=PR.mono A4.step.le (K.free.GH (dI.of A4)).2;clear hg ha Of MS T Ht H V F Ac kp W e dn QI PO ed en Od hP U k2 J G F2 PP eq R3 K PR N;cases b with
  |true=>refine mE (QU jw Z tS B σ2 X (λx hx=>?_) A f4 as D0 {s with heap:=M,toks:=t} _ _ Rm A4.hp A4.vr D.free L λf5 h5 Sz R5 Oj=>p f5 h5 Sz (D.trans R5) Oj);exact rl (oZ eb λhy=>Ph x hy hx) (av x (List.mem_append_right _ hx))
  |false=>
   revert p
   exact two X λp=>mD (p f4 M t D L)
 ·have hin:i=ds.length:=by exact sf hle u
  subst hin;refine S.turns.done _ _ _ QL λh1 Q k1=>?_;rw[List.drop_length]at ei
  revert q
  exact two ei λq=>q fi h1 Q (Ri.ux k1 O n0) (cJ PS λys m g0 r0=>(fu ys m ⟨k1 _ _ (λz=>(O D0 z).2 rfl) g0,r0⟩))
inductive oJ(w:World)(h₀:Heap)(n:Nat)(env:Env)(op:Bool)(C:Mine.Sem):List Comprehension→Gs→List Nat→Prop
 |nil:oJ w h₀ n env op C [] .nil []
 |cons {g:Comprehension} {gens:List Comprehension} {pl:Bool} {xs tg:List Nat} {it:It} {ifs:Ts} {r:Gs}:(g.is_async !=0)=false→vH w h₀ n env op pl g.target g.iter (pB C it)→lT w h₀ n env op pl xs g.target→oO w h₀ n env op g.ifs (dJ C ifs)→
   (∀x,foldedSetIterable g.iter env x=pure x)→(∀x∈xs,x∉tg)→oJ w h₀ n env op C gens r tg→oJ w h₀ n env op C (g::gens) (.cons xs it ifs r) (xs++tg)
theorem xo(U:aY w h₀ n env op op elt (aH C te))(G:oJ w h₀ n env op C b r B):∀{depth:Nat},gens.drop depth=b→
  Aw w h₀ n env op B (λacc=>lz elt gens scope pos depth acc env) (λρ σ acc=>vB C (aH C te) r ρ ρ σ acc):=by
 induction G with
 |nil=>intro depth i;refine xn ?_ U;rw[List.getElem?_eq_none];have:=congrArg List.length i;simp only[List.length_drop]at this;exact Lr this
 |@cons g b pl xs B it ifs r L Hi T Ht hs p G X=>
  intro depth i;have u:gens[depth]? =some g:=by
   have:(gens.drop depth)[0]? =some g:=by refine rl i ?_;rfl
   rw[List.getElem?_drop]at this;simpa using this
  have d:gens.drop (depth+1)=b:=by refine rr List.tail_drop (rl i ?_);rfl
  have t:∀g',gens[depth+1]? =some g'→(g'.is_async !=0)=false:=λg' M=>by
   have:b[0]? =some g':=by refine rr d (rl (List.getElem?_drop) ?_);simpa using M
   clear U i M;cases G with
   |nil=>exact no this
   |cons a=>exact one this a
  refineλρ σ acc N σ' e Z A f as D0 s Q E R H V F Ac q=>au e λds σ1 Y e=>?_;unfold lz;refine rl u ?_;refine wpAny_bind ?_;refine wpAny_mono (Hi ρ σ ds σ1 Y A f as s (λo c=>wpAny (model P0 w) A (runOwn (.compStart (.ListComp elt gens scope pos) depth o (.ref D0) env) env>>=λl=>pure ()) Q E c) E R H V λf1 h1 h2 tk I fp wr P Md St j S k W st=>?_)
   (λx D h=>wpAny_bind (wpAny_standAt (wpAny_bind (wpAny_of_eq (hs x) (wpAny_bind (wpAny_holding h)))))) λl l z=>z
  have O:=gf.of (dI.of j) F;have y:=Ac.mono j.step.le (F.GH (dI.of j)).2;have K:codeAny (model P0 w) A (.compLoop (.ListComp elt gens scope pos) depth (.ref I) (.ref D0) env) (λr J=>match r with | .ok f=>wpAny (model P0 w) A (pure ():PySem.Sem Unit) Q E J| .error e=>cameBackBy (model P0 w) A env E e J) {s with heap:=h2,toks:=tk}:=by exact rf u L t S (λl h=>nomatch h) T Ht (X d) p Z R j.hp j.vr O.free y k W st e λf' h' m R2 v=>wpAny_pure (q f' h' m (O.trans R2) v)
  refine wpAny_bind (wpAny_runOwn ?_);exact rl mark_none (gZ u L K (S.self 0 _ _ _ st K))
end
theorem fB{env:Env}{x:Str}:∀{names:List (Str×NameKind)},(names.map λ(n,k)=>if(k==NameKind.free&&env.scope.kind== .function&&env.kindOf n==some .cell)then(n,NameKind.cell)else(n,k)).lookup x=
  (names.lookup x).map λk=>if(k==NameKind.free&&env.scope.kind== .function&&env.kindOf x==some .cell)then NameKind.cell else k
 |[]=>rfl
 |(n,k)::r=>by
  have b:=@fB env x r;show List.lookup x ((if(k==NameKind.free&&env.scope.kind== .function&&env.kindOf n==some .cell)=true then(n,NameKind.cell)else(n,k))::_)=_;cases hx:x==n with
  |true=>
   have e:=beq_iff_eq.mp hx;subst e;by_cases a:(k==NameKind.free&&env.scope.kind== .function&&env.kindOf x==some .cell)=true
   ·refine rl (if_pos a) ?_;simp only[List.lookup_cons,hx,Option.map_some,if_pos a]
   ·refine rl (if_neg a) ?_;simp only[List.lookup_cons,hx,Option.map_some,if_neg a]
  |false=>
   by_cases a:(k==NameKind.free&&env.scope.kind== .function&&env.kindOf n==some .cell)=true
   ·refine rl (if_pos a) ?_;simp only[List.lookup_cons,hx];exact b
   ·refine rl (if_neg a) ?_;simp only[List.lookup_cons,hx];exact b
noncomputable def b8(names:List (Str×NameKind)):List Str:=(names.filter (λx=>x.2== .free)).map (λx=>x.1)
theorem jd(i:∀x∈b8 scope.names,∃c,env.cells.lookup x=some c):
  ∃cl,closureFor scope env=pure cl∧cl.map (λx=>x.1)=(b8 scope.names).reverse∧∀p∈cl,env.cells.lookup p.1=some p.2:=by
 have o:∀(F:Str×NameKind→List (Str×Addr)→PySem.Sem (ForInStep (List (Str×Addr)))),(∀n k r c,(k==NameKind.free)=true→env.cells.lookup n=some c→F (n,k) r=pure (ForInStep.yield ((n,c)::r)))→(∀n k r,(k==NameKind.free)=false→F (n,k) r=pure (ForInStep.yield r))→
   ∀(names:List (Str×NameKind)) (cs:List (Str×Addr)),(∀x∈b8 names,∃c,env.cells.lookup x=some c)→∃cl,(forIn names cs F:PySem.Sem (List (Str×Addr)))=pure (cl++cs)∧cl.map (λx=>x.1)=(b8 names).reverse∧∀p∈cl,env.cells.lookup p.1=some p.2:=by
  intro F y v names;induction names with
  |nil=>intro cs _;exact⟨[],rfl,rfl,λz h=>nomatch h⟩
  |cons x names u=>
   intro cs i;obtain⟨b,k⟩:=x;by_cases e:(k==NameKind.free)=true
   ·have d:b8 ((b,k)::names)=b::b8 names:=by unfold b8;refine rl List.filter_cons (rl (if_pos e) ?_);rfl
    refine aT (i b (by refine rl d ?_;exact .head _)) λc m=>?_;refine bG (u ((b,c)::cs) λx q=>i x (by refine rl d ?_;exact .tail _ q)) λcl g l j=>?_;refine⟨cl++[(b,c)],?_,?_,λp hp=>?_⟩
    ·rw[List.forIn_cons,y b k cs c e m,pure_bind];dsimp only;refine rl g ?_;simp
    ·refine rl d (rl List.map_append ?_);refine rl l (rl List.reverse_cons ?_);rfl
    ·refine Or.elim (List.mem_append.mp hp) (λhp=>?_) λhp=>?_
     ·exact j p hp
     ·exact rl (List.mem_singleton.mp hp) m
   ·have d:b8 ((b,k)::names)=b8 names:=by unfold b8;refine rl List.filter_cons (rl (if_neg e) ?_);rfl
    refine bG (u cs λx q=>i x (by refine rl d ?_;exact q)) λcl g l j=>?_;refine⟨cl,?_,by refine rl d ?_;exact l,j⟩;rw[List.forIn_cons,v b k cs (Bool.eq_false_iff.mpr e),pure_bind];exact g
 unfold closureFor;refine bG (o (λx r=>if(x.2==NameKind.free)=true then(do let a←cellOf env x.1;pure (ForInStep.yield ((x.1,a)::r)))else pure (ForInStep.yield r)) (λn k r c e m=>by simp only[e,if_true,cellOf,m,pure_bind]) (λn k r e=>by simp only[e,Bool.false_eq_true,if_false]) scope.names [] i) λcl g l j=>?_;refine⟨cl,?_,l,j⟩;simp only[List.append_nil]at g;exact(congrArg (λx=>x>>=λr=>pure r) g).trans (pure_bind _ _)
structure rR(env:Env)(scope:Scope)(ck tg:List Nat):Prop where
 kind:scope.kind= .function
 names:∀x∈scope.names,x.2= .local→scope.names.lookup x.1=some .local
 s8:∀y∈scope.names,y.2≠.cell
 free:∀x∈b8 scope.names,∃c,env.cells.lookup x=some c
 nodup:(b8 scope.names).Nodup
 bL:∀x∈ck,x<71∧scope.names.lookup (nm x)=some .free∧nm x∈b8 scope.names∧(env.kindOf (nm x)=some .cell∨env.kindOf (nm x)=some .free)
 all:∀x,x<71→nm x∈b8 scope.names→x∈ck
 off:∀x∈tg,x∉ck
noncomputable def tM(env:Env)(scope:Scope)(cenv:Env):Prop:=∃cl DX,cenv=compEnvC scope cl DX env∧∀x∈b8 scope.names,cl.lookup x=env.cells.lookup x
theorem tM.kind(c:tM env scope cenv)(e:scope.names.lookup x=some k)(d:k≠.free):cenv.kindOf x=some k:=by refine cJ c λi g a b=>?_;clear c b;subst a;show(relabel scope env).names.lookup x=_;unfold relabel;refine rl fB (rl e ?_);have:(k==NameKind.free)=false:=beq_eq_false_iff_ne.mpr d;rw[Option.map_some];refine rl this ?_;rfl
theorem tM.store(c:tM env scope cenv)(a:x<71)(e:scope.names.lookup (nm x)=some .local):aG cenv op x:=⟨a,.inl (c.kind e (by decide))⟩
theorem gj{α b:Type}[BEq α][LawfulBEq α]:∀{l:List (α×b)} {p:α×b},(l.map (λx=>x.1)).Nodup→p∈l→l.lookup p.1=some p.2
 |q::l,p,a,h=>by
  rw[List.map_cons,List.nodup_cons]at a;refine rl List.lookup_cons ?_;refine Or.elim (List.mem_cons.mp h) (λc=>?_) λh=>?_
  ·subst c;simp
  ·have:(p.1==q.1)=false:=beq_eq_false_iff_ne.mpr λe=>a.1 (e▸List.mem_map_of_mem h);exact rl this (gj a.2 h)
theorem eG{ck:List Nat}{x:Nat}:∀{ρ:aB},(ρ.filter λp=>ck.contains p.1).lookup x=some V'→x∈ck∧ρ.lookup x=some V'
 |[],e=>by exact no e
 |(k,u)::ρ,e=>by
  rw[List.filter_cons]at e;by_cases h:ck.contains k=true
  ·rw[if_pos h,List.lookup_cons]at e;refine rl List.lookup_cons ?_;cases q:x==k with
   |true=>rw[q]at e;exact rl (beq_iff_eq.mp q) (⟨by simpa using h,e⟩)
   |false=>rw[q]at e;exact eG e
  ·rw[if_neg h]at e;have:=eG e;refine⟨this.1,?_⟩;refine rl List.lookup_cons ?_;have:(x==k)=false:=beq_eq_false_iff_ne.mpr λz=>h (by refine rr z ?_;simpa using this.1);exact rl this ((eG e).2)
theorem g6{ck:List Nat}{x:Nat}{V':V}(a:x∈ck):∀{ρ:aB},ρ.lookup x=some V'→(ρ.filter λp=>ck.contains p.1).lookup x=some V'
 |(k,u)::ρ,e=>by
  rw[List.lookup_cons]at e;refine rl List.filter_cons ?_;cases q:x==k with
  |true=>rw[q]at e;have:=beq_iff_eq.mp q;subst this;refine rl (if_pos (by simpa using a)) (rl List.lookup_cons ?_);exact rl q e
  |false=>
   rw[q]at e;split
   ·simp only[List.lookup_cons,q];exact g6 a e
   ·exact g6 a e
section
variable{w:World}{h₀ h h' h1 h2 hp:Heap}{f f' f1 f2:PM}{as lU nG:List (Addr×Addr)}{σ σ' σ1 σ2:ak}{A:Around}{E:Value→Shared→Prop}{s:Shared}{n:Nat}{env:Env}{op dU jD:Bool}{C:Mine.Sem}{ρ jw tL:aB}{wr:List Addr}{D0:Addr}
theorem jK{gens:List Comprehension}{scope:Scope}{pos:Pos}{R:List (Str×Addr)}{ck xs tg:List Nat}{pl:Bool}{ifs:Ts}{r:Gs}{te:T}{ds acc':List D}{I:Addr}{fp:List Addr}{P Md:Nat→Value→Heap→Prop}{St:Nat→Heap→Prop}{RR:Value→Addr→Result→Shared→Prop}{fr:List Addr}
  (CO:rR env scope ck (xs++tg))(c1:R.map (λx=>x.1)=(b8 scope.names).reverse)(c2:∀p∈R,env.cells.lookup p.1=some p.2)
  (ha:(g.is_async !=0)=false)(Ph:∀x∈xs,x∉tg)
  (inner:∀cenv,tM env scope cenv→lT w h₀ n cenv op pl xs g.target∧oO w h₀ n cenv op g.ifs (dJ C ifs)∧aY w h₀ n cenv op op elt (aH C te)∧oJ w h₀ n cenv op C gens r tg)
  (Rm:bO A n)(H:Hp h₀ f as h σ)(V:Vr op f as env h ρ)(S:Src (fr:=fr) w A g.target pl f ds I fp wr P Md St)(MS:∀b∈fr,dG f as env h b)(k:∀b o,h.get? b=some o→s.heap.get? b=some o)(n0:∀b∈wr,h.get? b=none)(st:St 0 s.heap)
  (e:jt (pg xs (ρ.filter λp=>ck.contains p.1) (dJ C ifs) λρ σ acc=>vB C (aH C te) r ρ ρ σ acc) ds ([],σ)=some (acc',σ'))
  (q:∀f6 h5 tk D0 DX m,cH h₀ op env f as h ρ σ' f6 h5→(∀o,h.get? env.locals=some o→h5.get? env.locals=some o)→bP f6 (.ref D0) (.lst acc')→dG f6 as env h5 DX→h5.Ns DX m→h.get? DX=none→RR (.ref D0) DX (.ok .next) {s with heap:=h5,toks:=tk}):
  wpAny (model P0 w) A (newList []) (λacc s₃=>wpAny (model P0 w) A (newFunctionEnv scope env.globals R [] env.qual none .none (some env)) (λcenv PD=>
   codeAny (model P0 w) A (.compStart (.ListComp elt (g::gens) scope pos) 0 (.ref I) acc {cenv with scope:=relabel scope env}) (RR acc cenv.locals) PD) E s₃) E s:=by
 refine wpAny_newObj_type (wpAny_newFunctionEnv CO.s8 (by intro y hy;simp at hy) (λh4 hns Nv=>?_) CO.kind) (by size_fits);dsimp only at hns Nv⊢;have QM:∀b∈wr,b<s.heap.objs.size:=λb W=>by exact aT (S.stands 0 _ st b W) λo t=>Heap.lt_size t
 generalize Oc:s.heap.push (dR [] 0)=H2 at hns Nv;have hC:H2.objs.size=s.heap.objs.size+1:=by refine rr Oc ?_;rw[Heap.size_push]
 generalize Pa:s.heap.objs.size=D0 at*;have Oe:∀(b:Addr) o,h.get? b=some o→b<D0:=λb o t=>Pa▸Heap.lt_size (k b o t);generalize RU:H2.objs.size=DX at*;clear RU;subst hC;have gD:h.get? D0=none:=by cases z:h.get? D0 with |none=>rfl|some o=>exact absurd (Oe _ _ z) (Nat.lt_irrefl _)
 have gC:h.get? (D0+1)=none:=by cases z:h.get? (D0+1)with |none=>rfl|some o=>exact absurd (Oe _ _ z) (Nat.not_lt.mpr (Nat.le_succ _))
 have old:∀b o,b<D0→s.heap.get? b=some o→h4.get? b=some o:=λb o lt t=>Nv.extBut b o (Nat.ne_of_lt (Nat.lt_succ_of_lt lt)) (Heap.get?_push_of_some _ (Oc▸Heap.get?_push_of_some _ t));have Qz:=Nv.extBut _ _ (Nat.ne_of_lt (Nat.lt_succ_self _)) (Heap.get?_push_of_some _ (by refine rr Oc (rr Pa ?_);exact Heap.get?_push_size _ rfl));have dw:=QM;have nw:∀b,(∃o,h.get? b=some o)→b∉wr:=λb qq=>aT qq λo t z=>by rw[n0 b z]at t;exact no t
 have kb:∀b o,h.get? b=some o→(hideAll h4 wr).get? b=some o:=λb o t=>hideAll_get _ (old b o (Oe b o t) (k b o t)) (nw b ⟨o,t⟩);have Hb:=H.keeps kb;have qK:∀p∈R,p.2∈Env.qK env:=λp hp=>List.mem_map.mpr ⟨_,PySem.mem_of_lookup (c2 p hp),rfl⟩;have Mm:(R.map (λx=>x.1)).Nodup:=by exact rl c1 (List.pairwise_reverse.mpr (CO.nodup.imp Ne.symm))
 have Z:∀x∈b8 scope.names,R.lookup x=env.cells.lookup x:=λx hx=>by
  have:x∈R.map (λx=>x.1):=by exact rl c1 (List.mem_reverse.mpr hx)
  refine ay (List.mem_map.mp this) λp hp PL=>?_;subst PL;refine rl (gj Mm hp) (rl (c2 p hp) ?_);rfl
 have CE:tM env scope (compEnvC scope R (D0+1) env):=(fu R _ ⟨rfl,Z⟩);refine lR (inner _ CE) λT Ht He Gn=>?_;have M5:∀p∈R,p.2≠D0+1:=λp hp z=>by refine aT (V.has p.2 (List.mem_cons_of_mem _ (qK p hp))) λo t=>?_;rw[z,gC]at t;exact no t
 have Vc:Vr op f as (compEnvC scope R (D0+1) env) (hideAll h4 wr) (ρ.filter λp=>ck.contains p.1):=by
  refine⟨⟨CO.kind,V.ok.glob,V.ok.blt⟩,λx y ex=>?_,⟨_,Heap.Ns.at' hns λo t=>hideAll_get _ t λz=>Nat.not_lt.mpr (Nat.le_succ _) (dw _ z)⟩,λp hp=>?_,λp hp z=>?_,λa ha z=>?_,?_,λho p hp=>?_,?_,M5⟩
  ·refine a9 (eG ex) λhx ex=>lR (CO.bL x hx) λlt kf mf ko=>a9 (V.vars x y ex) λF zq=>ay zq λv B o=>⟨lt,v,.inr ?_,o⟩;refine Or.elim B (λF=>?_) λF=>?_
   ·obtain⟨kl,_⟩:=F;rcases ko with ko|ko<;>(replace ko:=kl▸ko;cases ko)
   ·obtain⟨kc,c,ec,Ic⟩:=F;refine⟨?_,c,(Z _ mf).trans ec,Heap.IsCell.at Ic (kb c)⟩;show(relabel scope env).names.lookup (nm x)=_∨(relabel scope env).names.lookup (nm x)=_;unfold relabel;refine rl fB (rl kf ?_);rw[Option.map_some];split
    ·exact .inl rfl
    ·exact .inr rfl
  ·obtain⟨v,c⟩:=V.cell _ (PySem.mem_of_lookup (c2 p hp));exact⟨v,Heap.IsCell.at c (kb p.2)⟩
  ·refine Or.elim (List.mem_cons.mp z) (λz=>?_) λz=>?_
   ·refine aT (H.has p hp) λo t=>?_;replace t:=z▸t;have:h.get? (D0+1)=some o:=t;rw[gC]at this;exact no this
   ·obtain⟨X,K,M⟩:=List.mem_map.mp z;exact V.apart p hp (List.mem_cons_of_mem _ (M▸qK X K))
  ·refine Or.elim (List.mem_cons.mp ha) (λF=>?_) λha=>?_
   ·subst F;refine aT (H.tabAt z) λo t=>?_;have:h.get? (D0+1)=some o:=t;rw[gC]at this;exact no this
   ·obtain⟨X,K,M⟩:=List.mem_map.mp ha;exact V.tab a (List.mem_cons_of_mem _ (M▸qK X K)) z
  ·exact(H.off gC).1
  ·exact V.jJ ho _ (PySem.mem_of_lookup (c2 p hp))
  ·skip;have:∀{l:List (Str×Addr)},(l.map (λx=>x.1)).Nodup→(∀p∈l,env.cells.lookup p.1=some p.2)→(l.map (λx=>x.2)).Nodup:=by
    intro l;induction l with
    |nil=>intro _ _;exact List.nodup_nil
    |cons p l ih=>intro nd hl;rw[List.map_cons,List.nodup_cons]at nd⊢;refine⟨λz=>?_,ih nd.2 λp hp=>hl p (.tail _ hp)⟩;refine ay (List.mem_map.mp z) λX K M=>?_;have:=gH V.inj (PySem.mem_of_lookup (hl p (.head _))) (PySem.mem_of_lookup (hl X (.tail _ K))) M.symm;exact nd.1 (List.mem_map.mpr ⟨X,K,(congrArg Prod.fst this).symm⟩)
   exact this Mm c2
 have FD:dG f as (compEnvC scope R (D0+1) env) (hideAll h4 wr) D0:=by
  refine⟨(H.off gD).1,⟨_,hideAll_get _ Qz λz=>Nat.lt_irrefl _ (dw _ z)⟩,λz=>?_,λz=>?_,(H.off gD).2.2⟩
  ·obtain⟨p,hp,M⟩:=List.mem_map.mp z;refine aT (H.has p hp) λo t=>?_;have:h.get? D0=some o:=M▸t;rw[gD]at this;exact no this
  ·refine Or.elim (List.mem_cons.mp z) (λz=>?_) λz=>?_
   ·exact absurd z (Nat.ne_of_lt (Nat.lt_succ_self _))
   ·refine ay (List.mem_map.mp z) λX K M=>aT (V.has X.2 (List.mem_cons_of_mem _ (qK X K))) λo t=>?_;have:h.get? D0=some o:=M▸t;rw[gD]at this;exact no this
 have Fc:∀b∈fr,dG f as (compEnvC scope R (D0+1) env) (hideAll h4 wr) b∧b≠D0:=λb W=>by
  have F0:=MS b W;refine aT F0.at_ λo t=>⟨⟨F0.off,⟨o,kb b o t⟩,F0.as,λz=>?_,F0.tab⟩,λz=>by replace t:=z▸t;rw[gD]at t;exact no t⟩;refine Or.elim (List.mem_cons.mp z) (λz=>?_) λz=>?_
  ·have z':b=D0+1:=z;rw[z',gC]at t;exact no t
  ·exact ay (List.mem_map.mp z) λX K M=>F0.adr (List.mem_cons_of_mem _ (M▸qK X K))
 have Of:∀g',(g::gens)[0+1]? =some g'→(g'.is_async !=0)=false:=λg' M=>by
  clear inner MS k n0 Oc QM Oe hns Nv nw Mm CE M5;cases Gn with
  |nil=>exact no M
  |cons a=>simp at M;subst M;exact a
 have MF:=S.turns.frame _ _ _ st λb W o t=>old b o (Pa▸Heap.lt_size t) t;have lp:∀s4:Shared,s4={s with heap:=h4,toks:=s.toks+([]:List (Str×Value)).length}→codeAny (model P0 w) A (.compLoop (.ListComp elt (g::gens) scope pos) 0 (.ref I) (.ref D0) (compEnvC scope R (D0+1) env)) (RR (.ref D0) (D0+1)) s4:=by
  intro s4 SG;subst SG;refine rf rfl ha Of S Fc T Ht (xo He Gn rfl) Ph (λx hx=>?_) Rm Hb Vc FD (fu ([]) 0 ⟨hideAll_get _ Qz λz=>Nat.lt_irrefl _ (dw _ z),.nil⟩) (λb o t=>of_hideAll _ t) (λb W=>hideAll_none _ W) MF e λf5 h5 tk R5 Oj=>?_
  ·cases z:(ρ.filter λp=>ck.contains p.1).lookup x with
   |none=>rfl
   |some v=>exact absurd (eG z).1 (CO.off x hx)
  ·refine cJ Oj λys m RQ r5=>?_;obtain⟨mC,NC⟩:=R5.vr.ns;have Pq:∀b o,h.get? b=some o→b∉as.map (λx=>x.2)++Env.qK env→b∉cT→h5.get? b=some o:=λb o t W ht=>by
    refine R5.step.keep b o (kb b o t) (λz=>?_) ht;refine Or.elim (List.mem_append.mp z) (λz=>?_) λz=>?_
    ·refine Or.elim (List.mem_append.mp z) (λz=>?_) λz=>?_
     ·exact W (List.mem_append_left _ z)
     ·refine Or.elim (List.mem_cons.mp z) (λz=>?_) λz=>?_
      ·have z':b=D0+1:=z;rw[z',gC]at t;exact no t
      ·exact ay (List.mem_map.mp z) λX K M=>W (List.mem_append_right _ (M▸qK X K))
    ·replace t:=(List.mem_singleton.mp z)▸t;rw[gD]at t;exact no t
   have Mp:∀b o,f5 b=some o→f b=some o∨h.get? b=none∨b∈as.map (λx=>x.2)∨b∈R.map (λx=>x.2)∨b∈cT:=λb o t=>by
    refine Or.elim (R5.step.new b o t) (λz=>?_) λF=>Or.elim F (λz=>?_) λF=>Or.elim F (λz=>?_) λF=>Or.elim F (λz=>?_) λz=>?_
    ·exact .inl z
    ·cases w:h.get? b with
     |none=>exact .inr (.inl rfl)
     |some o'=>rw[kb b o' w]at z;exact on z
    ·refine Or.elim (List.mem_append.mp z) (λz=>?_) λz=>?_
     ·refine Or.elim (List.mem_append.mp z) (λz=>?_) λz=>?_
      ·exact .inr (.inr (.inl z))
      ·refine Or.elim (List.mem_cons.mp z) (λz=>?_) λz=>?_
       ·have z':b=D0+1:=z;exact .inr (.inl (z'▸gC))
       ·exact .inr (.inr (.inr (.inl z)))
     ·exact rl (List.mem_singleton.mp z) (.inr (.inl gD))
    ·exact .inr (.inr (.inr (.inl z)))
    ·exact .inr (.inr (.inr (.inr z)))
   have M9:∀b∈R.map (λx=>x.2),b∈Env.qK env:=λb W=>by refine ay (List.mem_map.mp W) λp hp PL=>?_;subst PL;exact qK p hp
   have fD:=R5.free.off;have NH:f5.le (f5.put D0 (dR ys m)):=PM.cK fD;have H6:=R5.hp.put fD (λi p c e1 e2 l z=>R5.free.as (List.mem_map.mpr ⟨p,List.mem_of_getElem? e1,z⟩)) R5.free.tab RQ;have O:∀b,b≠D0→(f5.put D0 (dR ys m)) b=f5 b:=λb W=>if_neg W;have Nz:=V.has;have S6:Step f h (as.map (λx=>x.2)++Env.qK env) (Env.qK env) (f5.put D0 (dR ys m)) h5:=by
    refine⟨R5.step.le.trans NH,λb o t W ht=>Pq b o t W ht,λb o t=>?_⟩;by_cases W:b=D0
    ·exact .inr (.inl (W▸gD))
    ·rw[O b W]at t;refine Or.elim (Mp b o t) (λz=>?_) λF=>Or.elim F (λz=>?_) λF=>Or.elim F (λz=>?_) λF=>Or.elim F (λz=>?_) λz=>?_
     ·exact .inl z
     ·exact .inr (.inl z)
     ·exact .inr (.inr (.inl (List.mem_append_left _ z)))
     ·exact .inr (.inr (.inr (.inl (M9 b z))))
     ·exact .inr (.inr (.inr (.inr z)))
   have Y:∀b∈Env.adr env,b∉as.map (λx=>x.2):=λb W z=>by exact ay (List.mem_map.mp z) λp hp M=>V.apart p hp (M▸W)
   have Q:∀c∈Env.adr env,c∉R.map (λx=>x.2)→∀o,h.get? c=some o→h5.get? c=some o:=λc hc U o t=>by
    refine R5.step.keep c o (kb c o t) (λz=>?_) (V.tab c hc);refine Or.elim (List.mem_append.mp z) (λz=>?_) λz=>?_
    ·refine Or.elim (List.mem_append.mp z) (λz=>?_) λz=>?_
     ·exact Y c hc z
     ·refine Or.elim (List.mem_cons.mp z) (λz=>?_) λz=>?_
      ·have z':c=D0+1:=z;rw[z',gC]at t;exact no t
      ·exact U z
    ·rw[List.mem_singleton.mp z,gD]at t;exact no t
   have Gx:env.locals∉R.map (λx=>x.2):=λz=>by exact ay (List.mem_map.mp z) λp hp M=>V.ig _ (PySem.mem_of_lookup (c2 p hp)) M
   have V6:Vr op (f5.put D0 (dR ys m)) as env h5 ρ:=by
    refine⟨V.ok,λx y ex=>?_,?_,λp hp=>?_,V.apart,V.tab,?_,λho p hp=>?_,V.inj,V.ig⟩
    ·obtain⟨lt,v,B,o⟩:=V.vars x y ex;refine Or.elim B (λF=>?_) λF=>?_
     ·obtain⟨kl,m',N,e2⟩:=F;exact⟨lt,v,.inl ⟨kl,m',Heap.Ns.at' N (Q _ (List.mem_cons_self ..) Gx),e2⟩,o.mono (R5.step.le.trans NH)⟩
     ·obtain⟨kc,c,e2,Ic⟩:=F;have mc:(nm x,c)∈env.cells:=PySem.mem_of_lookup e2;have ca:c∈Env.adr env:=List.mem_cons_of_mem _ (List.mem_map.mpr ⟨_,mc,rfl⟩);by_cases U:c∈R.map (λx=>x.2)
      ·refine ay (List.mem_map.mp U) λp hp M=>?_;have Sb:=gH V.inj (PySem.mem_of_lookup (c2 p hp)) mc M;have Se:p.1=nm x:=congrArg Prod.fst Sb;have hfree:nm x∈b8 scope.names:=by refine rr Se ?_;have:p.1∈R.map (λx=>x.1):=List.mem_map_of_mem hp;rw[c1]at this;exact List.mem_reverse.mp this
       have hx:=CO.all x lt hfree;refine a9 (R5.vr.vars x y (g6 hx ex)) λF zq=>ay zq λv' B' o'=>⟨lt,v',.inr ⟨kc,c,e2,?_⟩,o'.mono NH⟩;refine Or.elim B' (λF=>?_) λF=>?_
       ·refine a9 F λSk F=>lR (CO.bL x hx) λF kf F F=>?_;have:(relabel scope env).names.lookup (nm x)=some .local:=Sk;unfold relabel at this;replace this:=fB▸this;rw[kf,Option.map_some]at this;split at this<;>cases this
       ·refine a9 F λF zq=>ay zq λc' e3 OJ=>?_;have P5:R.lookup (nm x)=some c':=e3;rw[Z _ hfree,e2]at P5
        (revert OJ;refine one P5 ?_;intro OJ)
        exact OJ
      ·exact⟨lt,v,.inr ⟨kc,c,e2,Heap.IsCell.at Ic (Q c ca U)⟩,o.mono (R5.step.le.trans NH)⟩
    ·obtain⟨m',N⟩:=V.ns;exact⟨m',Heap.Ns.at' N (Q _ (List.mem_cons_self ..) Gx)⟩
    ·by_cases U:p.2∈R.map (λx=>x.2)
     ·exact ay (List.mem_map.mp U) λX K M=>aT (R5.vr.cell X K) λv c=>⟨v,M▸c⟩
     ·exact aT (V.cell p hp) λv c=>⟨v,Heap.IsCell.at c (Q _ (List.mem_cons_of_mem _ (List.mem_map.mpr ⟨p,hp,rfl⟩)) U)⟩
    ·have hl:env.locals≠D0:=λz=>by refine aT (Nz _ (List.mem_cons_self ..)) λo t=>?_;rw[z,gD]at t;exact no t
     refine rl (O _ hl) ?_;cases z:f5 env.locals with
     |none=>rfl
     |some o=>
      refine Or.elim (Mp _ o z) (λw=>?_) λF=>Or.elim F (λw=>?_) λF=>Or.elim F (λw=>?_) λF=>Or.elim F (λw=>?_) λw=>?_
      ·rw[V.g7]at w;exact no w
      ·refine aT (Nz _ (List.mem_cons_self ..)) λo' t=>?_;rw[w]at t;exact no t
      ·exact absurd w (Y _ (List.mem_cons_self ..))
      ·exact absurd w Gx
      ·exact absurd w (V.tab _ (List.mem_cons_self ..))
    ·have ma:p.2∈Env.adr env:=List.mem_cons_of_mem _ (List.mem_map.mpr ⟨p,hp,rfl⟩);have hl:p.2≠D0:=λz=>by refine aT (Nz _ ma) λo t=>?_;rw[z,gD]at t;exact no t
     refine rl (O _ hl) ?_;by_cases U:p.2∈R.map (λx=>x.2)
     ·exact ay (List.mem_map.mp U) λX K M=>rr M (R5.vr.jJ ho X K)
     ·cases z:f5 p.2 with
      |none=>rfl
      |some o=>
       refine Or.elim (Mp _ o z) (λw=>?_) λF=>Or.elim F (λw=>?_) λF=>Or.elim F (λw=>?_) λF=>Or.elim F (λw=>?_) λw=>?_
       ·rw[V.jJ ho p hp]at w;exact no w
       ·refine aT (Nz _ ma) λo' t=>?_;rw[w]at t;exact no t
       ·exact absurd w (Y _ ma)
       ·exact absurd w U
       ·exact absurd w (V.tab _ ma)
   have DL:bP (f5.put D0 (dR ys m)) (.ref D0) (.lst acc'):=.lst (PM.bA ..) (r5.mono NH);have FC:dG (f5.put D0 (dR ys m)) as env h5 (D0+1):=by
    refine⟨?_,by refine jE NC λo F F t F=>?_;exact⟨o,t⟩,λz=>?_,λz=>?_,(H.off gC).2.2⟩
    ·exact rl (O _ (Nat.ne_of_gt (Nat.lt_succ_self _))) R5.vr.g7
    ·refine ay (List.mem_map.mp z) λp hp M=>aT (H.has p hp) λo t=>?_;have:h.get? (D0+1)=some o:=M▸t;rw[gC]at this;exact no this
    ·refine aT (Nz _ z) λo t=>?_;have:h.get? (D0+1)=some o:=t;rw[gC]at this;exact no this
   exact q _ h5 tk D0 (D0+1) mC ⟨S6.wide FN λF z=>z,H6,V6⟩ (Q _ (List.mem_cons_self ..) Gx) DL FC NC gC
 exact gZ rfl ha (lp _ rfl) (S.self 0 _ _ _ MF (lp _ rfl))
end
section
variable{w:World}{h₀ h h' h1 h2 hp:Heap}{f f' f1 f2:PM}{as lU nG:List (Addr×Addr)}{σ σ' σ1 σ2:ak}{A:Around}{E:Value→Shared→Prop}{s:Shared}{n:Nat}{env:Env}{op dU jD:Bool}{C:Mine.Sem}{ρ jw tL:aB}{wr:List Addr}{D0:Addr}
theorem uh{it:It}(a:∀x,it≠.iq x):aH C (.comp ck te (.cons xs it ifs r)) ρ σ=b2 (vB C (aH C te) (.cons xs it ifs r) ρ (ρ.filter λp=>ck.contains p.1) σ []) λl σ1=>some (.d (.lst l),σ1):=by
 cases it with
 |iq x=>exact absurd rfl (a x)
 |_=>rfl
theorem cH.but(a:cH h₀ op env f as h ρ σ' f' h1)(F:dG f' as env h1 c)(j:h.get? c=none)(e:∀b,b≠c→h2.get? b=h1.get? b):cH h₀ op env f as h ρ σ' f' h2:=
 ⟨⟨a.step.le,λb o d g i=>(e b λz=>by rw[z,j]at d;exact no d).trans (a.step.keep b o d g i),a.step.new⟩,a.hp.but e F.off (λp hp z=>F.as (List.mem_map.mpr ⟨p,hp,z⟩)) F.tab,a.vr.go λb g o d=>(e b λz=>F.adr (z▸g)).trans d⟩
structure xB(w:World)(h₀:Heap)(n:Nat)(env:Env)(op:Bool)(C:Mine.Sem)(elt:Expr)(g:Comprehension)(gens:List Comprehension)(scope:Scope)(ck xs tg:List Nat)(te:T)(it:It)(ifs:Ts)(r:Gs)(pl:Bool):Prop where
 ok:rR env scope ck (xs++tg)
 async:(g.is_async !=0)=false
 xt:∀x∈xs,x∉tg
 iter:vH w h₀ n env op pl g.target g.iter (pB C it)
 hs:∀x,foldedSetIterable g.iter env x=pure x
 ne:∀x,it≠.iq x
 inner:∀cenv,tM env scope cenv→lT w h₀ n cenv op pl xs g.target∧oO w h₀ n cenv op g.ifs (dJ C ifs)∧aY w h₀ n cenv op op elt (aH C te)∧oJ w h₀ n cenv op C gens r tg
theorem rj(d:Expr)(g:Comprehension)(c:List Comprehension)(b:Scope)(pos:Pos)(e:(g.is_async !=0)=false):eval (.ListComp d (g::c) b pos) env=comprehension (.ListComp d (g::c) b pos) b env (firstIterPos (g::c) pos) (newList []) false (eval g.iter env):=by rw[eval_ListComp];obtain⟨t,i,fs,a⟩:=g;show comprehension _ _ _ _ _ (a !=0) _=_;refine rl e ?_;rfl
theorem cQ(X:xB w h₀ n env op C elt g gens scope ck xs tg te it ifs r pl):
  aY w h₀ n env op op (.ListComp elt (g::gens) scope pos) (aH C (.comp ck te (.cons xs it ifs r))):=by
 refineλρ σ v σ' e=>au ((uh X.ne).symm.trans e) λl σ1 d e=>au d λds σ2 t d=>two e λA f as s Q E R H V q=>bG (jd X.ok.free) λM c x u=>rl (rj _ _ _ _ _ X.async) ?_;refine wpAny_comprehension_free rfl X.hs c X.ok.kind X.ok.names ?_;refine X.iter ρ σ ds σ2 t A f as s _ E R H V λf1 h1 h2 tk I L wr P O N i S k j st=>jK X.ok x u X.async X.xt X.inner R i.hp i.vr S (λG h=>nomatch h) k j st d λp K a D0 D m F J B z y o=>⟨m,y,λh' b=>?_⟩;exact q p h' a (.ref D0) (i.trans (F.but z o b.2)) B
theorem fV{W:T}{it:It}(X:xB w h₀ n env op C elt g gens scope ck xs tg W it ifs r pl)(D:aG env op x)
  (B:swapsWith (.ListComp elt (g::gens) scope pos) (some (.Name (nm x) pos')) spos.line env=pure true):
  cR w h₀ n env op op (exec (.Assign [.Name (nm x) pos'] (.ListComp elt (g::gens) scope pos) spos) env) (fZ C (.asg x (.comp ck W (.cons xs it ifs r)))):=by
 refineλρ σ fl ρ' σ' e=>au e λd σ1 j e=>au j λv σ3 K j=>au ((uh X.ne).symm.trans K) λl σ2 M K=>au M λds σ2 ei M=>?_
 revert j e
 refine two K λe j=>?_
 revert e
 refine two j λe=>three e λA f as s Q E R H V q=>bG (jd X.ok.free) λcl G c1 c2=>?_;obtain⟨t0,Y,J,a0⟩:=g;refine rl (exec_Assign_Name_used _ _ _ _ B) ?_;refine wpAny_bind (wpAny_standAt (wpAny_bind ?_));have i:(a0 !=0)=false:=X.async;show wpAny _ A (do let _←comprehension (.ListComp elt (⟨t0,Y,J,a0⟩::gens) scope pos) scope env _ (newList []) (a0 !=0) (eval Y env) (some (assign (.Name (nm x) pos') env))) _ _ s;refine rl i ?_;refine wpAny_bind (wpAny_mono (wpAny_comprehension_free rfl X.hs G X.ok.kind X.ok.names ?_) (λp s' hq=>wpAny_pure (wpAny_pure hq)) λp p e=>e);refine X.iter ρ σ ds σ2 ei A f as s _ E R H V λf1 h1 h2 tk I fp wr P Md St U S k n0 st=>jK X.ok c1 c2 X.async X.xt X.inner R U.hp U.vr S (λp h=>nomatch h) k n0 st M λf6 h5 u D0 DX m O kl DL FC NC gC=>wpAny_assign_Name (fX (s:={s with heap:=h5,toks:=u}) (y:=.d (.lst l)) O.hp O.vr D DL gp λh7 t Z=>?_);obtain⟨N,L⟩:=FC.GH Z;refine jE NC λo es ep g1 g2=>⟨m,(h9 o es ep ⟨L.trans g1,g2⟩),λh' F=>?_⟩;have R8:=(dI.of O).trans Z;have R9:=dI.free R8 (λb o c eo=>(F.2 b λz=>c (rl z (.head _))).trans eo) (λb c=>rl (List.mem_singleton.mp c) N) (λb c=>rl (List.mem_singleton.mp c) gC);exact q f6 as h' t _ ((dI.of U).trans R9) .next
theorem xq{K:Frag}(G:h8 K mg mb h₀ sg)(B:bW env mg "enumerate" (.type "enumerate"))(hc:env.cells=[])
  (L:rR env scope [] (xs++tg))(N:∀x∈xs,x∉tg)(hs:∀x,foldedSetIterable (.Call (.Name "enumerate" np) [.Name (nm y) ap] [] cp) env x=pure x)
  (F:∀cenv,tM env scope cenv→lT w h₀ n cenv op false xs (.Tuple elts kk tp)∧oO w h₀ n cenv op Nu (dJ C ifs)∧aY w h₀ n cenv op op elt (aH C te)∧oJ w h₀ n cenv op C gens r tg)(hst:aG env op x)
  (O:swapsWith (.ListComp elt (⟨.Tuple elts kk tp,.Call (.Name "enumerate" np) [.Name (nm y) ap] [] cp,Nu,0⟩::gens) scope pos) (some (.Name (nm x) pos')) spos.line env=pure true):
  cR w h₀ n env op op (exec (.Assign [.Name (nm x) pos'] (.ListComp elt (⟨.Tuple elts kk tp,.Call (.Name "enumerate" np) [.Name (nm y) ap] [] cp,Nu,0⟩::gens) scope pos) spos) env) (fZ C (.asg x (.comp [] te (.cons xs (.iq y) ifs r)))):=by
 refineλρ σ fl ρ' σ' e=>au e λd σ1 I e=>au I λv σ3 D I=>aS D λt D=>az D λk ek D=>az D λl el D=>au D λl2 Y e1 D=>?_
 revert I e
 refine two D λe I=>?_
 revert e
 refine two I λe=>three e λA f as s Q E R H V q=>bG (jd L.free) λcl P c1 c2=>rl (exec_Assign_Name_used _ _ _ _ O) ?_;refine wpAny_bind (wpAny_standAt (wpAny_bind ?_));refine wpAny_bind (wpAny_mono (wpAny_comprehension_free rfl hs P L.kind L.names ?_) (λt s' hq=>wpAny_pure (wpAny_pure hq)) λt t e=>e);have hl:eW w h₀ n env op op [.Name (nm y) ap] (bH C (.cons (.var y) .nil)):=af rfl aa aD;refine wpAny_Call_Name_kw (B.eval G H V.ok (gR hl (kE (aR (mG ek) rfl)) R H V λf1 h1 DZ vs j o1=>?_));refine ay o1.one λu SH ou=>?_;clear G B hs O ek D I H V P hl o1;subst SH;refine ay ou λp W Z=>?_;clear I D ou;subst Z;refine bR (j.hp.cells _ _ _ W (n6 el)) λa b zq=>cJ zq λvs z g rr=>?_;have mp:=List.mem_of_getElem? W;have S:=a▸g;have lt:=Heap.lt_size S;refine call_enumerate_list ⟨_,S,rfl,_,rfl⟩ λh2 he hi hz hk=>wpAny_pyIter_enum he ?_;have V0:Vr op f1 [] env h1 []:=⟨j.vr.ok,(λt t q=>nomatch q),j.vr.ns,j.vr.cell,(λt q=>nomatch q),j.vr.tab,j.vr.g7,j.vr.jJ,j.vr.inj,j.vr.ig⟩;have Fp:dG f1 [] env h1 p.1:=⟨a▸b,⟨_,S⟩,(λq=>nomatch q),a▸j.vr.apart p mp,a▸j.hp.gE p mp⟩;refine jK (s:={s with heap:=h2,toks:=DZ}) L c1 c2 rfl N F R j.hp.nil V0 (rN R rr (Nat.ne_of_gt (Nat.lt_succ_self _)) (Nat.ne_of_lt (Nat.lt_succ_of_lt lt)) (Nat.ne_of_lt lt) (.inr (.head _)))
  (λb c=>rl (List.mem_singleton.mp c) Fp) hk (λb c=>?_) ⟨⟨_,he⟩,hi,_,hk _ _ S,rfl,_,rfl⟩ e1 λU h5 tk' D0 DX m T kl DL X NC gC=>?_
 ·refine Or.elim (List.mem_cons.mp c) (λt=>?_) λc=>?_
  ·subst t;exact aq (Nat.le_succ _)
  ·exact rl (List.mem_singleton.mp c) (aq (Nat.le_refl _))
 ·have S6:=T.step;have ce:Env.qK env=[]:=by unfold Env.qK;refine rl hc ?_;rfl
  have J:Y=[]:=by have:=T.hp.len;exact List.length_eq_zero_iff.mp this.symm
  clear hc L N F D el e1 e R c1 c2 a zq g rr S lt he hi hz hk V0 Fp;subst J;have M:∀b∈([]:List (Addr×Addr)).map (λx=>x.2)++Env.adr env,b=env.locals:=λb c=>by have:b∈env.locals::Env.qK env:=c;rw[ce]at this;exact List.mem_singleton.mp this
  have nf:∀b o,U b=some o→f1 b=some o∨h1.get? b=none:=λb o i=>by
   refine Or.elim (S6.new b o i) (λw=>?_) λt=>Or.elim t (λw=>?_) λt=>Or.elim t (λw=>?_) λt=>Or.elim t (λw=>?_) λw=>?_
   ·exact .inl w
   ·exact .inr w
   ·rw[M b w,T.vr.g7]at i;exact no i
   ·replace w:=ce▸w;cases w
   ·rw[T.hp.jA b w]at i;exact no i
  have S7:Step f1 h1 [] [] U h5:=by
   refine⟨S6.le,λb o i t ht=>?_,λb o i=>(nf b o i).imp id .inl⟩;by_cases c:b=env.locals
   ·rw[c]at i⊢;exact kl o i
   ·exact S6.keep b o i (λw=>c (M b w)) ht
  have A7:=cH.of j.vr (S7.from) (j.hp.again S7 T.hp);have QS:dG U as env h5 DX:=⟨X.off,X.at_,(λw=>by refine ay (List.mem_map.mp w) λp' Sa e'=>aT (j.hp.has p' Sa) λo i=>?_;rw[e',gC]at i;exact no i),X.adr,X.tab⟩;refine wpAny_assign_Name (fX (s:={s with heap:=h5,toks:=tk'}) (y:=.d (.lst l2)) A7.hp A7.vr hst DL gp λh7 SA R7=>?_);obtain⟨QT,RG⟩:=QS.GH R7;refine jE NC λo es W g1 g2=>⟨m,(h9 o es W ⟨RG.trans g1,g2⟩),λh' hs'=>?_⟩;have R8:=(dI.of A7).trans R7;have R9:=dI.free R8 (λb o c i=>(hs'.2 b λz=>c (rl z (.head _))).trans i) (λb c=>rl (List.mem_singleton.mp c) QT) (λb c=>rl (List.mem_singleton.mp c) gC);exact q U as h' SA _ ((dI.of j).trans R9) .next
end
section
variable{w:World}{h₀ h h' h1 h2 hp:Heap}{f f' f1 f2:PM}{as lU nG:List (Addr×Addr)}{σ σ' σ1 σ2:ak}{A:Around}{E:Value→Shared→Prop}{s:Shared}{n:Nat}{env:Env}{op dU jD:Bool}{C:Mine.Sem}{ρ jw tL:aB}
 {K:Frag}{mg mb:Str→Option Value}{sg:List D}
noncomputable def oT(h:Heap)(L:Addr):List (Addr×Obj):=(List.range h.objs.size).filterMap λa=>if a=L then none else(h.get? a).map λo=>(a,o)
set_option tactic.hygienic true in
theorem fR:(b,o)∈oT h L↔b≠L∧h.get? b=some o:=by
 unfold oT;rw[List.mem_filterMap];constructor
 ·intro c;refine ay c λa g e=>?_;split at e
  ·exact no e
  ·rename_i d;cases q:h.get? a with
   |none=>rw[q]at e;exact no e
   |some i=>rw[q]at e;exact two e (⟨d,q⟩)
 ·intro c;refine a9 c λd e=>?_;exact⟨b,List.mem_range.mpr (Heap.lt_size e),by refine rl (if_neg d) (rl e ?_);rfl⟩
theorem kq(b:Addr):({}:Heap).get? b=none:=by
 cases q:({}:Heap).get? b with
 |none=>rfl
 |some o=>exact absurd (Heap.lt_size q) (Nat.not_lt_zero _)
theorem sP(N:h.Ns L m):Fr {} L h m:=⟨N,(λb o e=>by rw[kq]at e;exact no e),Nat.zero_le _⟩
theorem qg:News {} L h (oT h L):=λp hp=>by obtain⟨a,o⟩:=p;exact a9 (fR.mp hp) λh1 h2=>⟨h2,h1,kq _⟩
theorem rX(H:Hp h₀ f as h σ)(V:Vr op f as env h ρ)(N:h.Ns env.locals m)(G:Fr {} env.locals h' m)(k:∀b o,b≠env.locals→h.get? b=some o→h'.get? b=some o):cH h₀ op env f as h ρ σ f h':=by
 have j:∀m',h.Ns env.locals m'→m'=m:=λm' U=>by
  refine iL N λo1 M P T S d R=>iL U λo2 L O F l d Q=>?_;rw[T]at F;(revert l;refine one F ?_;intro l)
  replace l:=S▸l;cases l
  funext z;rw[←R,←Q]
 have g:=V.ig;refine⟨⟨f.le_refl,λb o e u d=>k b o (λz=>u (List.mem_append_right _ (z▸List.mem_cons_self ..))) e,λd d e=>.inl e⟩,H.go λb q=>?_,⟨V.ok,λx y e=>?_,⟨m,G.ns⟩,λp hp=>?_,V.apart,V.tab,V.g7,V.jJ,V.inj,V.ig⟩⟩
 ·have u:b≠env.locals:=λz=>by
   refine Or.elim q (λd=>?_) λd=>Or.elim d (λd=>?_) λq=>?_
   ·obtain⟨o,e⟩:=d;rw[z,V.g7]at e;exact no e
   ·obtain⟨p,hp,e⟩:=d;exact V.apart p hp (by refine rr e (rl z ?_);exact List.mem_cons_self ..)
   ·exact V.tab _ (List.mem_cons_self ..) (z▸q)
  have t:∃o,h.get? b=some o:=by
   rcases q with⟨o,e⟩|⟨p,hp,rfl⟩|q
   ·exact⟨o,H.on _ _ e⟩
   ·exact H.has p hp
   ·exact H.tabAt q
  obtain⟨o,e⟩:=t;refine rl e (rl (k b o u e) ?_);rfl
 ·refine a9 (V.vars x y e) λI i=>ay i λv B o=>⟨I,v,?_,o⟩;refine Or.elim B (λd=>?_) λd=>?_
  ·refine a9 d λJ i=>?_;obtain⟨m',W,r⟩:=i;exact .inl ⟨J,m,G.ns,j m' W▸r⟩
  ·refine a9 d λK i=>?_;obtain⟨c,r,X⟩:=i;exact .inr ⟨K,c,r,Heap.IsCell.at X λo D=>k c o (g _ (PySem.mem_of_lookup r)) D⟩
 ·obtain⟨v,c⟩:=V.cell p hp;exact⟨v,Heap.IsCell.at c λo D=>k p.2 o (g p hp) D⟩
theorem kD(N:News {} L h' l)(s:∀p∈oT h L,p∈l):∀b o,b≠L→h.get? b=some o→h'.get? b=some o:=λb o a e=>(N (b,o) (s _ (fR.mpr ⟨a,e⟩))).1
theorem cH.more(a:cH h₀ op env f as h ρ σ' f' h')(t:h.get? b=none)(j:f' b=none)(g:∀p∈as,p.2≠b)(d:b∉Env.adr env)(k:b∉cT)(e:h'.get? b=some o):cH h₀ op env f as h ρ σ' (f'.put b o) h':=by
 have le:=PM.cK (o:=o) j;refine⟨a.step.put j t,a.hp.put j (λi p c D F l=>g p (List.mem_of_getElem? D)) k e,⟨a.vr.ok,λx y u=>let⟨l,v,B,q⟩:=a.vr.vars x y u;⟨l,v,B,q.mono le⟩,a.vr.ns,a.vr.cell,a.vr.apart,a.vr.tab,?_,λr p hp=>?_,a.vr.inj,a.vr.ig⟩⟩
 ·exact(if_neg λ(z:env.locals=b)=>d (z▸List.mem_cons_self ..)).trans a.vr.g7
 ·exact(if_neg λ(z:p.2=b)=>d (z▸List.mem_cons_of_mem _ (List.mem_map.mpr ⟨p,hp,rfl⟩))).trans (a.vr.jJ r p hp)
theorem uQ(H:Hp h₀ f as h σ)(V:Vr op f as env h ρ)(c:h.get? b=none):f b=none∧(∀p∈as,p.2≠b)∧b∉Env.adr env∧b∉cT:=
 ⟨(H.off c).1,(λp hp z=>by refine aT (H.has p hp) λo d=>?_;rw[z,c]at d;exact no d),V.off c,(H.off c).2.2⟩
theorem cH.newObj(H:Hp h₀ f as h σ)(V:Vr op f as env h ρ)(a:cH h₀ op env f as h ρ σ f h'){b:Addr}{o:Obj}(c:h.get? b=none)(e:h'.get? b=some o):cH h₀ op env f as h ρ σ (f.put b o) h':=
 let⟨x1,x2,x3,x4⟩:=uQ H V c
 a.more c x1 x2 x3 x4 e
theorem cH.keeps(H:Hp h₀ f as h σ)(V:Vr op f as env h ρ)(k:∀b o,h.get? b=some o→h'.get? b=some o):cH h₀ op env f as h ρ σ f h':=cH.of V (Step.keeps k) (H.keeps k)
theorem ints_of:∀{ns:List Int} {vs:List Value},l.mapM c9=some ns→bQ f vs l→∃xs:List (Int×Tok),vs=xs.map (λp=>Value.int p.1 p.2)∧xs.map (λx=>x.1)=ns∧l=ns.map D.int:=by
 induction l with
 |nil=>intro ns vs e o;cases o;exact one e ⟨[],rfl,rfl,rfl⟩
 |cons d l k=>
  intro ns vs e o;cases o with
  |cons a r=>
   refine jU (P:=λns=>∃xs:List (Int×Tok),_=xs.map (λp=>Value.int p.1 p.2)∧xs.map (λx=>x.1)=ns∧_=ns.map D.int) e λi m b q=>bG (k q r) λxs j g c=>?_;clear k e r q;subst j;subst g;subst c;unfold c9 at b;split at b
   ·obtain rfl:=Option.some.inj b;obtain⟨t,rfl⟩:=bP.jy a;exact⟨(_,t)::xs,rfl,rfl,rfl⟩
   ·exact no b
theorem intsAre_map:∀{xs:List (Int×Tok)},IntsAre (xs.map λp=>Value.int p.1 p.2) (xs.map (λx=>x.1))
 |[]=>.nil
 |p::xs=>.cons p.1 p.2 intsAre_map
theorem m6(h:IntsAre vs ns):bQ f vs (ns.map D.int):=by
 induction h with
 |nil=>exact .nil
 |cons n t _ a=>exact .cons (.int n t) a
inductive lS(f:PM)(h:Heap):List Value→List D→Prop
 |nil:lS f h [] []
 |cons {v:Value} {d:D} {vs:List Value} {ds:List D}:eB f h v d→lS f h vs ds→lS f h (v::vs) (d::ds)
theorem Hp.HG:∀{vs:List Value} {ds:List D},Hp h₀ f as h σ→xs.mapM (Mine.view σ)=some ds→cV f as vs xs→lS f h vs ds:=by
 induction xs with
 |nil=>intro vs ds H e o;cases o;exact one e .nil
 |cons x xs c=>
  intro vs ds H e o;cases o with
  |cons a r=>exact jU e λy d q b=>.cons (H.view q a) (c H b r)
theorem lS.one(o:lS f h vs [d]):∃v,vs=[v]∧eB f h v d:=by
 cases o with
 |cons a r=>cases r;exact⟨_,rfl,a⟩
theorem lS.two(o:lS f h vs [d,e]):∃v u,vs=[v,u]∧eB f h v d∧eB f h u e:=by
 cases o with
 |cons a r=>refine ay r.one λu c b=>?_;clear r;subst c;exact(fu _ u ⟨rfl,a,b⟩)
noncomputable def df:N8→Value
 | .int=>.type "int"| .len=>.builtin "len"| .sorted=>.builtin "sorted"| .jm=>.none| .list=>.type "list"| .dict=>.type "dict"| .sum=>.builtin "sum"| .min=>.builtin "min"| .max=>.builtin "max"| .max2=>.builtin "max"
noncomputable def fb(w:World)(h₀:Heap)(b:N8)(l:List D→Option D):Prop:=
 ∀(ds:List D) (z:D),l ds=some z→∀(n:Nat) (env:Env) (op:Bool) (ρ:aB) (σ:ak) (A:Around) (f:PM) (as:List (Addr×Addr)) (vs:List Value) (s:Shared) (Q:Value→Shared→Prop) (E:Value→Shared→Prop),bO A n→Hp h₀ f as s.heap σ→Vr op f as env s.heap ρ→lS f s.heap vs ds→
  (∀f' h' tk val,cH h₀ op env f as s.heap ρ σ f' h'→bP f' val z→Q val {s with heap:=h',toks:=tk})→wpAny (model P0 w) A (call (df b) vs) Q E s
theorem qv(h:small n=true):n<64:=Nat.blt_eq.mp h
theorem Fx:fb w h₀ .int (cC .int):=by
 refineλds z e n env op ρ σ A f as vs s Q E R H V S q=>gA e λx c e=>ay (c▸S).one λv a o=>?_;clear R S c;subst a;cases x with
 |int i=>refine aT o.int λt a=>?_;subst a;exact call_int_int (q f s.heap s.toks _ (.refl H V) (one e (.int _ _)))
 |bool b=>have:=o.bool;clear o;subst this;refine call_int_bool (q f s.heap (s.toks+1) _ (.refl H V) (one e ?_));cases b<;>exact .int _ _
 |_=>exact no e
theorem iP(h:fits k=true):k<4096:=Nat.blt_eq.mp h
set_option tactic.hygienic true in
theorem fits_63(h:fits k=true):(k:Int)<2^ 63:=Int.lt_trans (Int.ofNat_lt.mpr (iP h)) (by decide)
theorem Fy(G:i7 h₀):fb w h₀ .len (cC .len):=by
 refineλds z e n env op ρ σ A f as vs s Q E R H V S q=>gA e λx i e=>ay (i▸S).one λv c o=>?_;clear S i;subst c;cases x with
 |lst l=>refine aS e λd e=>fG (o.lst H.on) λa vs m b g r=>?_;subst b;exact Calls.call_len_list ⟨_,g,rfl,m,rfl⟩ (show((vs.length:Nat):Int)<2^ 63 from r.length.symm▸fits_63 d) (q f s.heap (s.toks+1+1) (.int (vs.toArray.size:Nat) (s.toks+1)) (.refl H V) (one e (r.length▸.int _ _)))
 |tup l=>refine aS e λd e=>iL (o.tup H.on) λa vs m b u g r=>?_;subst b;exact len_tuple ⟨_,g,rfl,m,rfl⟩ (show((vs.length:Nat):Int)<2^ 63 from r.length.symm▸fits_63 d) (q f s.heap (s.toks+1+1) (.int (vs.toArray.size:Nat) (s.toks+1)) (.refl H V) (one e (r.length▸.int _ _)))
 |dct l=>refine aS e λd e=>iL (o.dct H.on) λa y m b g k r=>?_;subst b;refine ay (dB g k r) λkvs p j=>PySem.call_len_dict (gm G H g r) p (by refine rl j.length ?_;exact fits_63 d) ?_;exact rl j.length (q f s.heap (s.toks+1+1) _ (.refl H V) (one e (.int _ _)))
 |str x=>refine aS e λd e=>aT o.str λt c=>?_;clear G R o;subst c;exact P.len_str (Int.not_le_of_gt (fits_63 d)) (q f s.heap (s.toks+1+1) _ (.refl H V) (one e (.int _ _)))
 |_=>exact no e
theorem BF:fb w h₀ .max2 (cC .max2):=by
 intro ds z e n env op ρ σ A f as vs s Q E R H V S q
 match ds,e with
 |[x,y],e=>
  refine i0 e λa b g d e=>?_;subst g;subst d;refine fP S.two λv u d o i=>?_;clear S;subst d;obtain⟨t,rfl⟩:=o.int;obtain⟨j,rfl⟩:=i.int;refine max_two_ints R.hd λh' tk k=>q f h' tk _ (cH.keeps H V k) (one e ?_);by_cases c:b>a
  ·refine rl (if_pos c) (rl (LC c) ?_);exact .int _ _
  ·refine rl (if_neg c) (rl (I9 c) ?_);exact .int _ _
 |[],e=>exact no e
 |[_],e=>exact no e
 |_::_::_::_,e=>exact no e
theorem lY(G:i7 h₀):fb w h₀ .list (cC .list):=by
 refineλds z e n env op ρ σ A f as vs s Q E R H V S q=>gA e λx K e=>ay (K▸S).one λv p o=>?_;clear S K;subst p;cases x with
 |lst l=>refine aS e λB e=>fG (o.lst H.on) λa vs m i g r=>?_;subst i;refine call_list_seq a (.inl rfl) g rfl rfl (λh' c' k U=>?_) (by simp[r.length];exact dX B);have y:=cH.newObj H V (cH.keeps H V k) (aq (Nat.le_refl _)) U;exact q _ h' s.toks _ y (one e (.lst (PM.bA ..) (r.mono y.step.le)))
 |dct l=>
  refine aS e λB e=>iL (o.dct H.on) λa L m i g F r=>?_;subst i;refine ay (dB (w:=w) g F r) λkvs N O=>D7 N λo L W z=>?_;have c:kvs.length≤16777216:=rl O.length (AI (iP B));refine kdl_call (kdl_dict (gm G H g r)) R.hd (fu o L z) (kdl_size c) λh' tk d c' I J b=>?_;have y:=cH.newObj H V (cH.keeps H V I) (aq (Nat.le_refl _)) J;refine q _ h' tk _ y (one e (.lst (by rw[PM.bA]) ?_));have P:IntsAre d.toList ((kvs.map (λx=>x.1))):=kdy_ints (by simp only[List.length_map];exact b.1) λj v e=>by refine cJ (b.2 j v (by refine rr (Array.getElem?_toList) ?_;exact e)) λk x T M=>?_;refine aT (Value.isInt_shape M) λt p=>?_;clear G R H V B q F r N c I J b y M;subst p;exact⟨k,by refine rl (List.getElem?_map) ?_;refine rl T ?_;rfl,t,rfl⟩
  have u:∀g:PM,bQ g d.toList ((kvs.map (λx=>x.1)).map D.int):=λg=>m6 P;simp only[O.keys,List.map_map]at u;exact u _
 |_=>exact no e
theorem GU(G:h8 K mg mb h₀ sg)(B:bW env mg x (df b))(m:(∃T,df b= .type T)∨∃T,df b= .builtin T)(O:fb w h₀ b (cC b))(k:eW w h₀ n env op op l (bH C tl)):
  aY w h₀ n env op op (.Call (.Name x np) l [] pos) (aH C (.blt b tl)):=by
 refineλρ σ v σ' e=>au e λxs σ1 j e=>az e λds p e=>az e λz o e=>two e ?_;intro A f as s Q E R H V q;have a:∀f1 h1 DZ vs,cH h₀ op env f as s.heap ρ σ1 f1 h1→cV f1 as vs xs→wpAny (model P0 w) A (call (df b) vs) Q E {s with heap:=h1,toks:=DZ}:=λf1 h1 DZ vs c o1=>
  O ds z o n env op ρ σ1 A f1 as vs {s with heap:=h1,toks:=DZ} Q E R c.hp c.vr (c.hp.HG p o1) λf' h' tk g t r=>q f' h' tk g (c.trans t) r
 refine wpAny_Call_Name_kw (B.eval G H V.ok ?_);refine Or.elim m (λd=>?_) λd=>?_
 ·obtain⟨T,i⟩:=d;rw[i]at a⊢;exact gR k j R H V a
 ·obtain⟨T,i⟩:=d;rw[i]at a⊢;exact BL k j R H V a
theorem jY{xs:List (Int×Tok)}:numAt xs.toArray i=(xs.map (λx=>x.1)).getD i 0:=by unfold numAt;refine rl (List.getElem?_toArray) ?_;refine rl (List.getD_eq_getElem?_getD) ?_;refine rl (List.getElem?_map) ?_;rfl
theorem z5{ns:List Int}(h:∀i,val i=ns.getD i 0):∀k,k≤ns.length→preSum val k=(ns.take k).sum:=by
 intro k;induction k with
 |zero=>intro _;rfl
 |succ k b=>intro a;show preSum val k+val k=_;have:ns[k]? =some (ns[k]'(J' a)):=List.getElem?_eq_getElem _;refine rl (b (se a)) (rl (h k) ?_);refine rl List.take_add_one (rl List.sum_append ?_);refine rl (List.getD_eq_getElem?_getD) ?_;refine rl this ?_;simp
theorem Fz:fb w h₀ .sum (cC .sum):=by
 refineλds z e n env op ρ σ A f as vs s Q E R H V S q=>gA e λx y d=>jM d λl u d=>az d λns B e=>?_;clear d;refine aS e λd e=>ay (u▸y▸S).one λv c o=>?_;clear S y;clear u;subst c;refine fG (o.lst H.on) λa vs m b g r=>?_;clear o;subst b;refine bG (ints_of B r) λxs c j b=>?_;clear B r;subst c;subst j;subst b;have D:s.heap.IsList a (intItems xs.toArray):=⟨_,g,rfl,m,by simp[intItems]⟩;refine call_sum_walkG (iter_intList D λt e st p k=>?_);subst e;refine(OL _ _ _ _ _ _ (numAt xs.toArray) ⟨rfl,Walks.list (A:=A.in1) R.hd _ a k (intItems xs.toArray),st,p,(λd d=>intItems_at),λh' tk I F=>?_⟩);have G:preSum (numAt xs.toArray) (intItems xs.toArray).size=(xs.map (λx=>x.1)).sum:=by refine rl (z5 (ns:=xs.map (λx=>x.1)) (λi=>jY) _ (by simp[intItems])) ?_;refine rl (List.take_of_length_le (by simp[intItems])) ?_;rfl
 exact rl G (q f h' tk _ (cH.keeps H V (old_kept F)) (one e (.int _ _)))
theorem fold_min:∀(ns:List Int) (m:Int),(ns.foldl min m∈m::ns)∧∀x∈m::ns,ns.foldl min m≤x
 |[],m=>⟨.head _,λx b=>rl (List.mem_singleton.mp b) (Int.le_refl _)⟩
 |a::ns,m=>by
  have d:=fold_min ns (min m a);refine⟨?_,λx b=>?_⟩
  ·refine Or.elim (List.mem_cons.mp d.1) (λe=>?_) λe=>?_
   ·refine rl e ?_;by_cases h:m≤a
    ·exact rl (IR h) (.head _)
    ·exact rl (K4 h) (.tail _ (.head _))
   ·exact .tail _ (.tail _ e)
  ·have g:=d.2 _ (.head _);refine Or.elim (List.mem_cons.mp b) (λc=>?_) λb=>?_
   ·subst c;exact Bk g
   ·refine Or.elim (List.mem_cons.mp b) (λc=>?_) λb=>?_
    ·subst c;exact Bd g
    ·exact d.2 x (.tail _ b)
theorem fold_max:∀(ns:List Int) (m:Int),(ns.foldl max m∈m::ns)∧∀x∈m::ns,x≤ns.foldl max m
 |[],m=>⟨.head _,λx b=>rl (List.mem_singleton.mp b) (Int.le_refl _)⟩
 |a::ns,m=>by
  have d:=fold_max ns (max m a);refine⟨?_,λx b=>?_⟩
  ·refine Or.elim (List.mem_cons.mp d.1) (λe=>?_) λe=>?_
   ·refine rl e ?_;by_cases h:m≤a
    ·exact rl (Kf h) (.tail _ (.head _))
    ·exact rl (J7 h) (.head _)
   ·exact .tail _ (.tail _ e)
  ·have g:=d.2 _ (.head _);refine Or.elim (List.mem_cons.mp b) (λc=>?_) λb=>?_
   ·subst c;exact Bp g
   ·refine Or.elim (List.mem_cons.mp b) (λc=>?_) λb=>?_
    ·subst c;exact Bv g
    ·exact d.2 x (.tail _ b)
theorem intAt{xs:List (Int×Tok)}{k:Nat}(e:(intItems xs.toArray)[k]? =some v):∃i t,v= .int i t∧(xs.map (λx=>x.1))[k]? =some i:=by
 simp only[intItems,List.map_toArray,List.getElem?_toArray,List.getElem?_map]at e;cases q:xs[k]? with
 |none=>rw[q]at e;exact no e
 |some p=>rw[q]at e;exact one e (fu p.1 p.2 ⟨rfl,by refine rl (List.getElem?_map) ?_;refine rl q ?_;rfl⟩)
theorem n5:fb w h₀ .min (cC .min):=by
 refineλds z e n env op ρ σ A f as vs s Q E R H V S q=>gA e λx N u=>jM u λl M u=>az u λns O e=>?_;clear u;refine ay (M▸N▸S).one λv d o=>?_;clear S N;clear u M;subst d;cases ns with
 |nil=>exact no e
 |cons F ns=>
  refine fG (o.lst H.on) λa vs m c g r=>?_;clear o;subst c;refine bG (ints_of O r) λxs d G c=>?_;clear O r;subst d;subst c;have L:s.heap.IsList a (intItems xs.toArray):=⟨_,g,rfl,m,by simp[intItems]⟩;have b:xs.length=ns.length+1:=by have:=congrArg List.length G;simpa using this
  refine min_intList R.hd L (by simp[b]) λv h' tk K k=>cJ (intAt K) λi t B J=>?_;clear R g L K;subst B;rw[G]at J;have T:=argBest_lt (numAt xs.toArray) (xs.toArray.size-1);have D:=List.mem_of_getElem? J;have p:∀x∈F::ns,i≤x:=λx y=>by refine aT (List.mem_iff_getElem.mp y) λj P=>?_;clear y;obtain⟨I,rfl⟩:=P;have:=T.2 j (by simp[b];simp at I;exact Ba I);rw[jY,jY,G,List.getD_eq_getElem?_getD,List.getD_eq_getElem?_getD,J,List.getElem?_eq_getElem I]at this;exact this
  have U:=Int.le_antisymm (p _ (fold_min ns F).1) ((fold_min ns F).2 i D);exact rl U (q f h' tk _ (cH.keeps H V k) (one e (.int _ _)))
theorem nZ:fb w h₀ .max (cC .max):=by
 refineλds z e n env op ρ σ A f as vs s Q E R H V S q=>gA e λx N p=>jM p λl M p=>az p λns O e=>?_;clear p;refine ay (M▸N▸S).one λv d o=>?_;clear S N;clear p M;subst d;cases ns with
 |nil=>exact no e
 |cons F ns=>
  refine fG (o.lst H.on) λa vs m c g r=>?_;clear o;subst c;refine bG (ints_of O r) λxs d G c=>?_;clear O r;subst d;subst c;have L:s.heap.IsList a (intItems xs.toArray):=⟨_,g,rfl,m,by simp[intItems]⟩;have b:xs.length=ns.length+1:=by have:=congrArg List.length G;simpa using this
  refine max_intList R.hd L (by simp[b]) λv h' tk K k=>cJ (intAt K) λi t B J=>?_;clear R g L K;subst B;rw[G]at J;have T:=argBest_gt (numAt xs.toArray) (xs.toArray.size-1);have D:=List.mem_of_getElem? J;have u:∀x∈F::ns,x≤i:=λx y=>by refine aT (List.mem_iff_getElem.mp y) λj P=>?_;clear y;obtain⟨I,rfl⟩:=P;have:=T.2 j (by simp[b];simp at I;exact Ba I);rw[jY,jY,G,List.getD_eq_getElem?_getD,List.getD_eq_getElem?_getD,J,List.getElem?_eq_getElem I]at this;exact this
  have U:=Int.le_antisymm ((fold_max ns F).2 i D) (u _ (fold_max ns F).1);exact rl U (q f h' tk _ (cH.keeps H V k) (one e (.int _ _)))
end
noncomputable def pw{α:Type}(c:Nat→Nat→Bool)(n:Nat):KasT α→(α→Prop)→Prop
 | .ret a,Q=>Q a
 | .ask i j k,Q=>i<n∧j<n∧pw c n (k (c i j)) Q
section
variable{c:Nat→Nat→Bool}{n:Nat}
theorem mO{g:α→KasT β}(h:pw c n t (λa=>pw c n (g a) Q)):pw c n (t.bind g) Q:=by
 induction t with
 |ret=>exact h
 |ask _ _ _ b=>exact⟨h.1,h.2.1,b _ h.2.2⟩
theorem gO{R:α→Prop}(d:∀a,Q a→R a)(h:pw c n t Q):pw c n t R:=by
 induction t with
 |ret=>exact d _ h
 |ask _ _ _ b=>exact⟨h.1,h.2.1,b _ h.2.2⟩
theorem ql{u:KasT α}(d:i<n)(a:j<n)(f:c i j=true→pw c n t Q)(e:¬c i j=true→pw c n u Q):pw c n (.ask i j λb=>if b=true then t else u) Q:=
 ⟨d,a,show pw c n (ite (c i j=true) t u) Q from(Classical.em _).elim (λh=>rl (if_pos h) (f h)) λh=>rl (if_neg h) (e h)⟩
theorem uG{R:α→Shared→Prop}{s0:Shared}
  (ask:∀i j C tk,i<n→j<n→(∀tk,C (c i j) {s0 with heap:=h,toks:=tk})→cmp i j C {s0 with heap:=h,toks:=tk})(e:∀a tk,Q a→R a {s0 with heap:=h,toks:=tk})
  (tk:Nat)(q:pw c n t Q):t.kasWp cmp R {s0 with heap:=h,toks:=tk}:=by
 induction t generalizing tk with
 |ret=>exact e _ tk q
 |ask _ _ _ f=>exact ask _ _ _ tk q.1 q.2.1 λd=>f _ d q.2.2
noncomputable def mS(n:Nat)(p:Array Nat):Prop:=p.Perm (List.range n).toArray
theorem mS.size(h:mS n p):p.size=n:=by have:=h.size_eq;simpa using this
theorem mS.lt(h:mS n p)(a:i<n):p.getD i 0<n:=by
 have hs:=h.size;have e:p.getD i 0=p[i]'(AQ a hs):=by simp[Array.getD,hs,a]
 refine rl e ?_;have b:p[i]'(AQ a hs)∈p.toList:=by rw[←Array.getElem_toList];exact List.getElem_mem _
 have:=(Array.perm_iff_toList_perm.mp h).mem_iff.mp b;simpa using this
theorem mS.rev(h:mS n p)(i j:Nat):mS n (kas_rev p i j):=(mirror_perm ..).trans h
theorem mS.bubble(h:mS n p)(i j:Nat):mS n (bubble p i j):=(bubble_perm ..).trans h
theorem mu{p q:Array Nat}(h:p[i]? =q[j]?):p.getD i 0=q.getD j 0:=by refine rl (Array.getD_eq_getD_getElem?) (rl (Array.getD_eq_getD_getElem?) ?_);refine rl h ?_;rfl
theorem rev_getD(b:j≤p.size)(k:Nat):(kas_rev p i j).getD k 0=if i≤k∧k<j then p.getD (i+j-1-k) 0 else p.getD k 0:=by
 have e:=getElem?_mirror_all (i:=i) b k;by_cases a:i≤k∧k<j
 ·rw[if_pos a]at e⊢;exact mu e
 ·rw[if_neg a]at e⊢;exact mu e
theorem t7(hs:src<p.size)(f:d≤src)(k:Nat):(bubble p src d).getD k 0=if k=src-d then p.getD src 0 else if src-d<k∧k≤src then p.getD (k-1) 0 else p.getD k 0:=by
 have e:=getElem?_bubble hs d f k;by_cases b:k=src-d
 ·rw[if_pos b]at e⊢;exact mu e
 ·rw[if_neg b]at e⊢;by_cases a:src-d<k∧k≤src
  ·rw[if_pos a]at e⊢;exact mu e
  ·rw[if_neg a]at e⊢;exact mu e
end
section
variable{O:KeyOrd}{K:Nat→O.α}{n:Nat}
noncomputable def GK(K:Nat→O.α)(p:Array Nat)(i:Nat):O.α:=K (p.getD i 0)
noncomputable def oG(K:Nat→O.α)(p:Array Nat)(m:Nat):Prop:=∀i j,i≤j→j<m→O.kle (GK K p i) (GK K p j)
noncomputable def xC(K:Nat→O.α)(p:Array Nat)(m:Nat):Prop:=∀i j,i≤j→j<m→O.kle (GK K p j) (GK K p i)
noncomputable abbrev qR(K:Nat→O.α)(i j:Nat):Bool:=O.blt (K i) (K j)
theorem oG.one:oG K p 1:=λi j b a=>by
 have:i=j:=by exact JT b a
 clear b a;subst this;exact KeyOrd.kle_refl _
theorem oG.ext(h:oG K p m)(f:1≤m)(q:O.kle (GK K p (m-1)) (GK K p m)):oG K p (m+1):=λi j a b=>by
 by_cases e:j=m
 ·clear b;subst e;by_cases d:i=j
  ·subst d;exact KeyOrd.kle_refl _
  ·exact KeyOrd.kle_trans (h i (j-1) (Bj a d) (AM f)) q
 ·exact h i j a (sq b e)
theorem xC.ext(h:xC K p m)(f:1≤m)(q:O.kle (GK K p m) (GK K p (m-1))):xC K p (m+1):=λi j a b=>by
 by_cases e:j=m
 ·clear b;subst e;by_cases d:i=j
  ·subst d;exact KeyOrd.kle_refl _
  ·exact KeyOrd.kle_trans q (h i (j-1) (Bj a d) (AM f))
 ·exact h i j a (sq b e)
theorem GK_rev(a:j≤p.size)(k:Nat):GK K (kas_rev p i j) k=if i≤k∧k<j then GK K p (i+j-1-k)else GK K p k:=by unfold GK;rw[rev_getD a];split<;>rfl
theorem HQ(hs:src<p.size)(a:d≤src)(k:Nat):GK K (bubble p src d) k=if k=src-d then GK K p src else if src-d<k∧k≤src then GK K p (k-1)else GK K p k:=by
 unfold GK;rw[t7 hs a];repeat' split
 all_goals rfl
theorem Dn(h:i≤k∧k<j):i≤i+j-1-k∧i+j-1-k<j:=
 have q:=Nat.le_sub_one_of_lt (Nat.add_lt_add_left h.2 i);have l:=Nat.lt_of_lt_of_le (Nat.zero_lt_of_lt h.2) (Nat.le_add_left j i)
 ⟨Nat.le_sub_of_add_le q,Nat.sub_lt_left_of_lt_add (Nat.le_trans (Nat.le_add_left k i) q) (Nat.lt_of_lt_of_le (Nat.sub_lt l Nat.one_pos) (Nat.add_le_add_right h.1 j))⟩
theorem GK_rev_eq(b:j≤p.size)(a:∀k,i≤k→k<j→GK K p k=GK K p (j-1))(k:Nat):GK K (kas_rev p i j) k=GK K p k:=
 (GK_rev b k).trans ((Classical.em _).elim (λh=>(if_pos h).trans ((a _ (Dn h).1 (Dn h).2).trans (a k h.1 h.2).symm)) λh=>if_neg h)
theorem oG.rev(h:xC K p m)(d:m≤p.size):oG K (kas_rev p 0 m) m:=λi j a b=>by rw[GK_rev d,GK_rev d,if_pos ⟨Nat.zero_le _,Nat.lt_of_le_of_lt a b⟩];refine rl (if_pos ⟨Nat.zero_le _,b⟩) ?_;exact h _ _ (LB a) (KQ b)
theorem De:∀{m:Nat} {p:Array Nat},mS n p→oG K p m→1≤m→m+f≤n→
  pw (qR K) n (kas_asc p f m) (λg=>m≤g∧g≤m+f∧oG K p g∧(g<m+f→O.klt (GK K p g) (GK K p (g-1)))):=by
 induction f with
 |zero=>exactλu i z A=>⟨Nat.le_refl _,Nat.le_refl _,i,λh=>absurd h (Nat.lt_irrefl _)⟩
 |succ f w=>
  exactλ{m} {p} r i x s=>ql (r.lt (AG s)) (r.lt (AJ s)) (λt=>⟨Nat.le_refl _,Bl,i,λu=>t⟩) λt=>
   gO (λg v=>lR v λa b y d=>⟨se a,Br b,y,λh=>d (H9 h)⟩) (w r (i.ext x (KeyOrd.kle_of_not_klt t)) r8 (mX s))
noncomputable def Flat(K:Nat→O.α)(p:Array Nat)(m q:Nat):Prop:=q+1≤m∧∀k,m-(q+1)≤k→k<m→GK K p k=GK K p (m-1)
theorem Flat.zero(h:1≤m):Flat K p m 0:=⟨h,λk b a=>by refine rl (IK b a) ?_;rfl⟩
theorem Flat.rev(F:Flat K p m q)(a:m≤p.size)(k:Nat):GK K (kas_rev p (m-(q+1)) m) k=GK K p k:=GK_rev_eq a F.2 k
theorem xC.same(h:xC K p m)(e:∀k,GK K p' k=GK K p k):xC K p' m:=λi j a b=>by simp only[e];exact h i j a b
noncomputable def Dp(K:Nat→O.α)(n m k:Nat)(r:Array Nat×Nat×Nat):Prop:=mS n r.1∧m≤r.2.1∧r.2.1≤k∧xC K r.1 r.2.1∧Flat K r.1 r.2.1 r.2.2
theorem GG:∀{m q:Nat} {p:Array Nat},mS n p→xC K p m→Flat K p m q→m+f≤n→pw (qR K) n (kas_desc f p m q) (Dp K n m (m+f)):=by
 induction f with
 |zero=>exactλg l i D=>⟨g,Nat.le_refl _,Nat.le_refl _,l,i⟩
 |succ f w=>
  intro m q p g l o i;have x:=AG i;have v:∀r,Dp K n (m+1) (m+1+f) r→Dp K n m (m+(f+1)) r:=λr a=>⟨a.1,se a.2.1,Br a.2.2.1,a.2.2.2⟩;have C:=E6 o.1;have z:=g.lt (AJ i);refine ql (g.lt x) z (λy=>?_) λy=>ql z (g.lt x) (λB=>⟨g,Nat.le_refl _,Bl,l,o⟩) λB=>?_
  ·have j:=l.ext C (KeyOrd.kle_of_klt y);split
   ·exact gO v (w (g.rev _ _) (j.same (o.rev (g.size.symm▸Nat.le_of_lt x))) (.zero r8) (mX i))
   ·exact gO v (w g j (.zero r8) (mX i))
  ·have A:O.kle (GK K p m) (GK K p (m-1)):=KeyOrd.kle_of_not_klt B;have e:=KeyOrd.kle_antisymm A (KeyOrd.kle_of_not_klt y);refine gO v (w g (l.ext C A) ⟨J0 o.1,λk a b=>?_⟩ (mX i));exact(Classical.em (k=m)).elim (λh=>h▸rfl) λh=>(o.2 k (Nat.add_sub_add_right m 1 (q+1)▸a) (sq b h)).trans e.symm
theorem uZ(d:mS n p)(g:xC K p m)(f:1≤m)(e:m≤n):pw (qR K) n (kas_tail3 m n p) (λr=>mS n r.2∧1≤r.1∧r.1≤n∧oG K r.2 r.1):=
 mO (gO (λh b=>⟨d.rev 0 m,Nat.le_trans f b.1,Nat.add_sub_of_le e▸b.2.1,b.2.2.1⟩) (De (d.rev 0 m) (oG.rev g (d.size.symm▸e)) f (Nat.le_of_eq (Nat.add_sub_of_le e))))
theorem nO(i:mS n p)(j:xC K p (m+1))(f:m+1≤n):pw (qR K) n (kas_descPart m n p) (λr=>mS n r.2∧1≤r.1∧r.1≤n∧oG K r.2 r.1):=by
 refine mO (gO (λr h=>?_) (GG i j (.zero r8) (Ij f)));refine HK h λa b k d F=>?_;have g:=Nat.le_trans (Nat.le_add_left 1 m) b;have e:=Nat.add_sub_of_le f▸k;split
 ·exact uZ (a.rev _ _) (d.same (F.rev (a.size.symm▸e))) g e
 ·exact uZ a d g e
theorem zY(n:Nat):mS n (List.toArray (List.range n)):=Array.Perm.refl _
theorem Df(x:1≤n)(f:mS n p):pw (qR K) n (kas_count n p) (λr=>mS n r.2∧1≤r.1∧r.1≤n∧oG K r.2 r.1):=by
 have v:=Nat.add_sub_of_le x;refine mO (gO (λm A=>?_) (De f oG.one (Nat.le_refl _) (Nat.le_of_eq v)));refine lR A λa b s d=>?_;have l:=v▸b;by_cases e:m=n
 ·exact rl (if_pos (beq_iff_eq.mpr e)) (⟨f,a,l,s⟩)
 ·refine rl (if_neg λh=>e (beq_iff_eq.mp h)) ?_;have t:=Nat.lt_of_le_of_ne l e;have w:=d (v.symm▸t);by_cases q:m>1
  ·refine rl (if_pos q) ?_;refine ql (f.lt x) (f.lt (Ia b q)) (λz=>⟨f,a,l,s⟩) λz=>?_;have u:∀k,0≤k→k<m→GK K p k=GK K p (m-1):=λk C y=>
    KeyOrd.kle_antisymm (s k (m-1) (Nat.le_sub_one_of_lt y) (Nat.sub_lt a Nat.one_pos)) (KeyOrd.kle_trans (KeyOrd.kle_of_not_klt z) (s 0 k (Nat.zero_le _) y))
   refine nO (f.rev _ _) (xC.same (xC.ext (λi j g o=>?_) a (KeyOrd.kle_of_klt w)) (GK_rev_eq (f.size.symm▸l) u)) t;refine rl (u i (Nat.zero_le _) (Nat.lt_of_le_of_lt g o)) (rl (u j (Nat.zero_le _) o) ?_);exact KeyOrd.kle_refl _
  ·refine rl (if_neg q) ?_;refine nO f (xC.ext (λi j g o=>?_) a (KeyOrd.kle_of_klt w)) t;have B:=Nat.lt_one_iff.mp (Nat.lt_of_lt_of_le o (Nat.not_lt.mp q));exact rl (Nat.le_antisymm g (B▸Nat.zero_le i)) (KeyOrd.kle_refl _)
theorem mids(h:l<r):l≤(l+r)/2∧(l+r)/2<r:=
 ⟨(Nat.le_div_iff_mul_le Nat.two_pos).mpr ((Nat.mul_two l).symm▸Nat.add_le_add_left (Nat.le_of_lt h) l),(Nat.div_lt_iff_lt_mul Nat.two_pos).mpr ((Nat.mul_two r).symm▸Nat.add_lt_add_right h r)⟩
theorem Dg(w:mS n p)(g:k<n)(as:oG K p k){f:Nat}:∀{l r:Nat},l≤r→r≤k→r≤l+f→(∀i,i<l→O.kle (GK K p i) (GK K p k))→(∀i,r≤i→i<k→O.kle (GK K p k) (GK K p i))→
  pw (qR K) n (kas_place p k f l r) (λx=>x≤k∧(∀i,i<x→O.kle (GK K p i) (GK K p k))∧(∀i,x≤i→i<k→O.kle (GK K p k) (GK K p i))):=by
 induction f with
 |zero=>exactλu h j a b=>⟨Nat.le_trans u h,a,λi e g=>b i (Nat.le_trans j e) g⟩
 |succ f v=>
  intro l r u h j a b;by_cases o:l≥r
  ·exact rl (show kas_place p k (f+1) l r= .ret l from if_pos o) (⟨Nat.le_trans u h,a,λi e g=>b i (Nat.le_trans o e) g⟩)
  ·refine rl (show kas_place p k (f+1) l r=_ from if_neg o) ?_;have m:=mids (Nat.not_le.mp o);have q:=Nat.lt_of_lt_of_le m.2 h;refine ql (w.lt g) (w.lt (Nat.lt_trans q g)) (λt=>?_) λt=>?_
   ·exact v m.1 (Nat.le_of_lt q) (Nat.le_of_lt_succ (Nat.lt_of_lt_of_le m.2 j)) a λi e s=>KeyOrd.kle_trans (KeyOrd.kle_of_klt t) (as _ i e s)
   ·exact v m.2 h (Nat.le_trans j (Nat.le_trans (Nat.add_le_add_right m.1 (f+1)) (Nat.le_of_eq (Nat.succ_add _ f).symm))) (λi e=>KeyOrd.kle_trans (as i _ (Nat.le_of_lt_succ e) q) (KeyOrd.kle_of_not_klt t)) b
theorem kle_eq(h:a=a')(k:b=b')(c:O.kle a' b'):O.kle a b:=h▸k▸c
theorem FE(hs:k<p.size)(a:x≤k)(b:∀i,i<x→O.kle (GK K p i) (GK K p k))(w:∀i,x≤i→i<k→O.kle (GK K p k) (GK K p i))(r:oG K p k):oG K (bubble p k (k-x)) (k+1):=λi j f g=>by
 have e:=λi=>HQ (K:=K) hs (Nat.sub_le k x) i;rw[Nat.sub_sub_self a]at e;have q:∀i,i<x→GK K (bubble p k (k-x)) i=GK K p i:=λi s=>(e i).trans ((if_neg (Nat.ne_of_lt s)).trans (if_neg λh=>Nat.lt_asymm s h.1));have u:=(e x).trans (if_pos rfl);have o:∀i,x≤i→i<k→GK K (bubble p k (k-x)) (i+1)=GK K p i:=λi t v=>(e (i+1)).trans ((if_neg (Nat.ne_of_gt (Nat.lt_succ_of_le t))).trans (if_pos ⟨Nat.lt_succ_of_le t,v⟩));refine(Nat.lt_trichotomy j x).elim (λl=>kle_eq (q i (Nat.lt_of_le_of_lt f l)) (q j l) (r i j f (Nat.lt_of_lt_of_le l a))) λh=>h.elim (λl=>?_) λl=>?_
 ·exact rl l ((Nat.eq_or_lt_of_le (show i≤x from l▸f)).elim (λm=>rl m (KeyOrd.kle_refl _)) λl=>kle_eq (q i l) u (b i l))
 ·cases j with
  |zero=>exact absurd l (Nat.not_lt_zero _)
  |succ j=>
   replace l:=Nat.le_of_lt_succ l;replace g:=Nat.lt_of_succ_lt_succ g;refine(Nat.lt_trichotomy i x).elim (λm=>kle_eq (q i m) (o j l g) (r i j (Nat.le_of_lt (Nat.lt_of_lt_of_le m l)) g)) λm=>m.elim (λm=>kle_eq (m▸u) (o j l g) (w j l g)) λm=>?_;cases i with
   |zero=>exact absurd m (Nat.not_lt_zero _)
   |succ i=>exact kle_eq (o i (Nat.le_of_lt_succ m) (Nat.lt_of_le_of_lt (Nat.le_of_succ_le_succ f) g)) (o j l g) (r i j (Nat.le_of_succ_le_succ f) g)
theorem Mt:∀{k:Nat} {p:Array Nat},mS n p→oG K p k→k+f=n→pw (qR K) n (kas_bin f p k) (λh=>mS n h∧oG K h n):=by
 induction f with
 |zero=>exactλd g e=>⟨d,e▸g⟩
 |succ f l=>intro k p d g e;have j:k<n:=e▸Nat.lt_add_of_pos_right (Nat.succ_pos f);refine mO (gO (λx q=>bR q λa b o=>?_) (Dg d j g (Nat.zero_le _) (Nat.le_refl _) (Nat.le_add_left _ _) (λi m=>absurd m (Nat.not_lt_zero _)) λi a b=>absurd b (Nat.not_lt.mpr a)));exact l (d.bubble _ _) (FE (d.size.symm▸j) a b o g) ((Nat.succ_add k f).trans e)
theorem yw(f:1≤n):pw (qR K) n (kas_sort n) (λp=>mS n p∧oG K p n):=by
 refine mO (gO (λr q=>?_) (Df f (zY n)));refine lR q λa b e d=>?_;rw[Nat.max_eq_left b];by_cases l:r.1<n
 ·exact rl (if_pos l) (Mt a d (Nat.add_sub_of_le e))
 ·exact rl (if_neg l) (⟨a,Nat.le_antisymm e (Nat.not_lt.mp l)▸d⟩)
end
noncomputable def iF(a b:Int×Int):Bool:=decide (a.1<b.1)||(decide (a.1=b.1)&&decide (a.2<b.2))
theorem cF:iF a b=true↔a.1<b.1∨(a.1=b.1∧a.2<b.2):=by unfold iF;simp
theorem cG:iF a b=false↔¬(a.1<b.1∨(a.1=b.1∧a.2<b.2)):=by rw[←cF];simp
noncomputable def mJ:KeyOrd where
 α:=Int×Int
 blt:=iF
 irrefl:=λa=>cG.mpr λh=>h.elim (Int.lt_irrefl _) λh=>Int.lt_irrefl _ h.2
 trans:=λa b c h1 h2=>cF.mpr ((cF.mp h1).elim (λx=>(cF.mp h2).elim (λy=>.inl (Int.lt_trans x y)) λy=>.inl (y.1▸x)) λx=>(cF.mp h2).elim (λy=>.inl (x.1▸y)) λy=>.inr ⟨x.1.trans y.1,Int.lt_trans x.2 y.2⟩)
 negTrans:=λa b c h=>(Int.lt_or_le a.1 b.1).elim (λx=>.inl (cF.mpr (.inl x))) λx=>(cF.mp h).elim (λy=>.inr (cF.mpr (.inl (Int.lt_of_le_of_lt x y)))) λy=>
  (Int.lt_or_le b.1 a.1).elim (λz=>.inr (cF.mpr (.inl (y.1▸z)))) λz=>(Int.lt_or_le a.2 b.2).elim (λu=>.inl (cF.mpr (.inr ⟨Int.le_antisymm z x,u⟩))) λu=>.inr (cF.mpr (.inr ⟨(Int.le_antisymm x z).trans y.1,Int.lt_of_le_of_lt u y.2⟩))
 total:=λa b h1 h2=>Prod.ext (Int.le_antisymm (Int.not_lt.mp λh=>cG.mp h2 (.inl h)) (Int.not_lt.mp λh=>cG.mp h1 (.inl h)))
  (Int.le_antisymm (Int.not_lt.mp λh=>(Int.lt_or_le a.1 b.1).elim (λx=>cG.mp h1 (.inl x)) λx=>(Int.lt_or_le b.1 a.1).elim (λy=>cG.mp h2 (.inl y)) λy=>cG.mp h2 (.inr ⟨Int.le_antisymm x y,h⟩))
   (Int.not_lt.mp λh=>(Int.lt_or_le a.1 b.1).elim (λx=>cG.mp h1 (.inl x)) λx=>(Int.lt_or_le b.1 a.1).elim (λy=>cG.mp h2 (.inl y)) λy=>cG.mp h1 (.inr ⟨Int.le_antisymm y x,h⟩)))
inductive bS(f:PM):List Value→List (Int×Int)→Prop
 |nil:bS f [] []
 |cons {a:Addr} {t u:Tok} {n:Nat} {x y:Int} {vs:List Value} {ps:List (Int×Int)}:f a=some (jB [.int x t,.int y u] n)→bS f vs ps→bS f (.ref a::vs) ((x,y)::ps)
theorem bS.len(h:bS f vs ps):vs.length=ps.length:=by
 induction h with
 |nil=>rfl
 |cons _ _ a=>exact congrArg (λx=>x+1) a
theorem bS.tups(F:f.on h){ps:List (Int×Int)}(P:bS f vs ps):∃fs,KatTups h vs fs∧fs.length=vs.length∧∀v∈fs,∃i t,v=Value.int i t:=by
 induction P with
 |nil=>exact⟨[],.nil,rfl,λl q=>nomatch q⟩
 |cons e r j=>exact bG j λfs a b c=>⟨_,.cons (F _ _ e) rfl rfl rfl a,congrArg (λx=>x+1) b,List.forall_mem_cons.mpr ⟨(fu _ _ rfl),c⟩⟩
theorem bS.at(F:f.on h){vs:List Value}{ps:List (Int×Int)}(P:bS f vs ps):∀{i:Nat},i<vs.length→∃a t u n,vs.getD i .none= .ref a∧h.get? a=some (jB [.int (ps.getD i (0,0)).1 t,.int (ps.getD i (0,0)).2 u] n):=by
 induction P with
 |nil=>intro i b;exact absurd b (Nat.not_lt_zero _)
 |cons e r c=>
  intro i b;cases i with
  |zero=>exact(jC _ _ _ _ ⟨rfl,F _ _ e⟩)
  |succ i=>exact c (Nat.lt_of_succ_lt_succ b)
section
variable{w:World}{A:Around}{E:Value→Shared→Prop}{s:Shared}{L:Addr}{m:Str→Option Value}
theorem tX(x:b=true)(F:f.on h)(P:bS f vs ps)(v:i<vs.length)(q:j<vs.length)
  (c:∀tk,C (iF (ps.getD i (0,0)) (ps.getD j (0,0))) {s with heap:=h,toks:=tk}):kas_ask P0 w A (tuples' b) vs i j C {s with heap:=h,toks:=tk}:=by
 subst x;refine tN (P.at F v) λa t u n z y=>tN (P.at F q) λH D B G l k=>?_;unfold kas_ask;refine rl z (rl l ?_);refine kat_lt y rfl k rfl ?_;generalize (ps.getD i (0,0))=p at*;generalize (ps.getD j (0,0))=r at*;refine kat_cons (wpAny_eqBool_int (kat_go (λe=>kat_yes (kat_cons (wpAny_eqBool_int (kat_go (λo=>kat_yes (kat_nil ?_)) (λo=>kat_no ?_))))) (λe=>kat_no ?_)))
 ·have d:p.1=r.1:=by simpa using e
  have g:p.2=r.2:=by simpa using o
  have:=c tk;rw[cG.mpr (Ll d g)]at this;exact this
 ·have d:p.1=r.1:=by simpa using e
  refine kat_one _ _ (lt_int ?_);have:=c tk;rw[show iF p r=decide (p.2<r.2) by unfold iF;refine rl d ?_;simp]at this;exact this
 ·have d:p.1≠r.1:=by simpa using e
  refine oneLt_int ?_;have:=c tk;rw[show iF p r=decide (p.1<r.1) by unfold iF;simp[d]]at this;exact this
theorem fF(N:s.heap.Ns L m)(z:s.heap.IsList l vs.toArray)(F:f.on s.heap)(P:bS f vs ps)(B:∀a o,f a=some o→a≠L)(k:2≤vs.length)(h:vs.length<64)
  (q:∀(D:Addr) (h':Heap) (c tk:Nat) (p:Array Nat),Fr {} L h' m→(∀b o,b≠L→s.heap.get? b=some o→h'.get? b=some o)→s.heap.get? D=none→mS vs.length p→oG (O:=mJ) (λi=>ps.getD i (0,0)) p vs.length→
   h'.get? D=some (dR (p.toList.map λi=>vs.getD i .none) c)→Q (.ref D) {s with heap:=h',toks:=tk}):
  wpAny (model P0 w) A (call (.builtin "sorted") [.ref l]) Q E s:=by
 refine kat_sorted (sP N) qg z k h λD W h' V r u=>?_;have x:=kD r λp d=>List.mem_cons_of_mem _ d;have K:f.on h':=λb o e=>x b o (B b o e) (F b o e);refine bG (P.tups K) λfs J I H=>?_;have M:s.heap.get? D=none:=by
  cases e:s.heap.get? D with
  |none=>rfl
  |some o=>exact absurd (u (D,o) (fR.mpr ⟨(r _ (.head _)).2.1,e⟩)) (Nat.lt_irrefl _)
 refine kat_kind (T:=.type "int") J (IP k I) (λv y=>?_) (by rfl) ?_
 ·refine qM (H v y) λi t n=>?_;clear N z F B h x J I H y;subst n;exact Looks.of_pure rfl
 ·refine uG (c:=qR (O:=mJ) λi=>ps.getD i (0,0)) ?_ ?_ s.toks (yw (Bm k))
  ·exactλi j C tk S R c=>tX (by rfl) K P S R c
  ·refineλp tk d=>(fu _ _ ⟨V,r,.head (λp d=>Nat.ne_of_lt (u p d)),λk c U G=>?_⟩);exact q D k c tk p U (kD G λp d=>List.mem_cons_of_mem _ d) M d.1 d.2 (G _ (.head _)).1
set_option tactic.hygienic true in
theorem xr(n:s.heap.IsList l vs.toArray)(p:vs.length<2)
  (q:Q (.ref (s.heap.objs.size+1)) {s with heap:=sortedAll s.heap vs vs.toArray}):wpAny (model P0 w) A (call (.builtin "sorted") [.ref l]) Q E s:=by
 refine Calls.call_function_entry kind_sorted plain_sorted entry_sorted (args_sorted1 _) ?_;unfold Builtin.«sorted»;refine wpAny_bind (wpAny_pure ?_);refine wpAny_bind (collect_list n ?_ (by rw[sizeLine_eq];lia));refine wpAny_bind (wpAny_newList ?_ (by rw[sizeLine_eq];lia));have f:((s.heap.push (seqObj "list" #[] 0)).update s.heap.objs.size (Obj.mapSeq (λx=>x++vs.toArray))).objs.size=s.heap.objs.size+1:=by rw[Heap.size_update,size_push']
 have c:(((s.heap.push (seqObj "list" #[] 0)).update s.heap.objs.size (Obj.mapSeq (λx=>x++vs.toArray))).push (seqObj "list" vs.toArray 0)).get? (s.heap.objs.size+1)=some (seqObj "list" vs.toArray 0):=by exact rr f (Heap.get?_push_size _ rfl)
 show wpAny _ _ _ _ _ {s with heap:=((s.heap.push (seqObj "list" #[] 0)).update s.heap.objs.size (Obj.mapSeq (λx=>x++vs.toArray))).push (seqObj "list" vs.toArray 0)};refine rl f ?_;refine wpAny_bind (wpAny_holding (wpAny_call_entry slot_list_sort ⟨_,c,rfl⟩ entry_list_sort ?body (args_list_sort _)))
 case body=>
  generalize o:(((s.heap.push (seqObj "list" #[] 0)).update s.heap.objs.size (Obj.mapSeq (λx=>x++vs.toArray))).push (seqObj "list" vs.toArray 0))=H at c;have k:s.heap.objs.size+1<H.objs.size:=Heap.lt_size c;rw[list_sort_plain];refine wpAny_bind (listItems_at c rfl ?_);refine wpAny_bind (listUpdate_at c rfl ?_ (by refine rl List.size_toArray ?_;refine rl sizeLine_eq ?_;lia) (Nat.zero_le _));obtain⟨e1,h⟩:∃e1,(H.update (s.heap.objs.size+1) (Obj.mapSeq λj=>#[])).get? (s.heap.objs.size+1)=some (seqObj "list" #[] e1):=⟨_,get?_update_seq c (λj=>#[])⟩;refine wpAny_bind (seqEpoch_at h rfl ?_);refine wpAny_bind (wpAny_newTuple ?_ (by refine rl sizeLine_eq ?_;simp;lia));refine wpAny_bind (wpAny_newList ?_ (Nat.zero_le _));refine wpAny_holding ?_;have g:(((H.update (s.heap.objs.size+1) (Obj.mapSeq λj=>#[])).push (seqObj "tuple" vs.toArray 0)).push (seqObj "list" #[] 0)).get? (s.heap.objs.size+1)=some (seqObj "list" #[] e1):=by refine rl (Heap.get?_push_ne _ _ _ (by rw[size_push',Heap.size_update];exact Nat.ne_of_lt (Nat.lt_succ_of_lt k))) ?_;refine rl (Heap.get?_push_ne _ _ _ (by rw[Heap.size_update];exact Nat.ne_of_lt k)) ?_;exact h
  dsimp only;have i:vs.toArray.size<2:=by simpa using p
  refine rl (if_pos i) (rl (if_pos i) ?_);refine wpAny_bind (wpAny_pure ?_);rw[StateT.run_pure];refine wpAny_bind (wpAny_pure ?_);dsimp only;refine wpAny_bind (seqEpoch_at g rfl ?_);refine wpAny_bind (listUpdate_at g rfl ?_ (Nat.zero_le _) (by refine rl Array.size_map ?_;show(pairsOf vs).size≤_;rw[pairsOf_size,sizeLine_eq];lia));simp only[bne_self_eq_false];have e:(arrOf (SortSt.mk' general' (vs.toArray.zip vs.toArray) #[] 7 none)).map (λx=>x.2)=vs.toArray:=by apply Array.toList_inj.mp;rw[Array.toList_map,Array.toList_zip,List.map_snd_zip (Nat.le_refl _)]
  refine wpAny_pure ⟨_,rfl,wpAny_pure ⟨_,rfl,?_⟩⟩;unfold sortedAll sortedHeap at q;rw[o]at q;have r:=congrArg (λz=>{s with heap:=(((H.update (s.heap.objs.size+1) (Obj.mapSeq λj=>#[])).push (seqObj "tuple" vs.toArray 0)).push (seqObj "list" #[] 0)).update (s.heap.objs.size+1) (Obj.mapSeq λj=>z)}) e;exact r▸q
end
section
variable{α:Type}{le:α→α→Bool}
theorem pR(x:α):∀l:List α,(ins le x l).Perm (x::l)
 |[]=>List.Perm.refl _
 |y::l=>by
  unfold ins;split
  ·exact List.Perm.refl _
  ·exact(List.Perm.cons y (pR x l)).trans (List.Perm.swap x y l)
theorem cE:∀l:List α,(cy le l).Perm l
 |[]=>List.Perm.refl _
 |x::l=>(pR x (cy le l)).trans (List.Perm.cons x (cE l))
set_option tactic.hygienic true in
theorem pS(i:∀a b,le a b=true∨le b a=true)(j:∀a b c,le a b=true→le b c=true→le a c=true)(x:α):∀{l:List α},l.Pairwise (λa b=>le a b=true)→(ins le x l).Pairwise (λa b=>le a b=true)
 |[],_=>List.pairwise_singleton _ _
 |y::l,h=>by
  have h':=List.pairwise_cons.mp h;unfold ins;split
  ·rename_i d;exact List.pairwise_cons.mpr ⟨λz g=>(List.mem_cons.mp g).elim (λe=>e▸d) λg=>j _ _ _ d (h'.1 z g),h⟩
  ·rename_i d;refine List.pairwise_cons.mpr ⟨λz g=>?_,pS i j x h'.2⟩;refine Or.elim (List.mem_cons.mp ((pR x l).mem_iff.mp g)) (λk=>?_) λg=>?_
   ·subst k;exact(i y z).elim id λe=>absurd e (by simp[d])
   ·exact h'.1 z g
theorem gJ(d:∀a b,le a b=true∨le b a=true)(e:∀a b c,le a b=true→le b c=true→le a c=true):∀l:List α,(cy le l).Pairwise (λa b=>le a b=true)
 |[]=>.nil
 |x::l=>pS d e x (gJ d e l)
theorem mz(e:∀a b,le a b=true∨le b a=true)(i:∀a b c,le a b=true→le b c=true→le a c=true)(d:∀a b,le a b=true→le b a=true→a=b)(p:l'.Perm l)(s:l'.Pairwise (λa b=>le a b=true)):l'=cy le l:=
 List.Perm.eq_of_pairwise (λa b g g=>d a b) s (gJ e i l) (p.trans (cE l).symm)
end
theorem ji(p:ns'.Perm ns)(s:ns'.Pairwise (λx y=>x≤y)):ns'=cy fg ns:=
 mz (λa b=>by unfold fg;simp;exact Bc) (λa b c=>by unfold fg;simp;exact A1) (λa b=>by unfold fg;simp;exact EP) p (s.imp λh=>by unfold fg;simpa using h)
theorem fT:b9 a b=true↔a.1<b.1∨(a.1=b.1∧a.2≤b.2):=by unfold b9;simp
theorem jR(p:ps'.Perm ps)(s:ps'.Pairwise (λa b=>b9 a b=true)):ps'=cy b9 ps:=
 mz (λa b=>by rw[fT,fT];exact Bo) (λa b c=>by simp only[fT];exact Bs) (λa b=>by rw[fT,fT];exactλe d=>Prod.ext (EK e d) (Ks e d)) p s
theorem qd{α:Type}(l:List α)(d:α):(List.range l.length).map (λi=>l.getD i d)=l:=by
 apply List.ext_getElem?;refineλi=>rl (List.getElem?_map) ?_;by_cases h:i<l.length
 ·refine rl (List.getElem?_range h) ?_;refine rl (List.getElem?_eq_getElem h) ?_;simp[h]
 ·refine rl (List.getElem?_eq_none (by simpa using h)) ?_;refine rl (List.getElem?_eq_none (vS h)) ?_;rfl
theorem qj(h:mS n p):p.toList.Perm (List.range n):=Array.perm_iff_toList_perm.mp h
theorem nN(h:mS ps.length p)(a:oG (O:=mJ) (λi=>ps.getD i (0,0)) p ps.length):p.toList.map (λi=>ps.getD i (0,0))=cy b9 ps:=by
 refine jR (((qj h).map _).trans (List.Perm.of_eq (qd ps _))) ?_;rw[List.pairwise_iff_getElem];intro i j l k d;have hs:=h.size;have e:i<p.size:=by simpa using l
 have c:j<p.size:=by simpa using k
 have:=a i j (Bb d) (rZ hs c);unfold KeyOrd.kle GK at this;have o:p.getD i 0=p[i]:=by simp[Array.getD,e]
 have m:p.getD j 0=p[j]:=by simp[Array.getD,c]
 rw[o,m]at this;have b:iF (ps.getD p[j] (0,0)) (ps.getD p[i] (0,0))=false:=this;simp only[List.getElem_map,Array.getElem_toList];rw[cG]at b;rw[fT];exact(Int.lt_trichotomy _ _).elim .inl λz=>z.elim (λz=>.inr ⟨z,Int.not_lt.mp λq=>b (.inr ⟨z.symm,q⟩)⟩) λz=>absurd (.inl z) b
section
variable{w:World}{h₀ h h':Heap}{f f':PM}{as:List (Addr×Addr)}{σ σ':ak}{A:Around}{E:Value→Shared→Prop}{s:Shared}{n:Nat}{env:Env}{op:Bool}{ρ:aB}{Q:Value→Shared→Prop}
theorem bP.NX(a:bP f v (.tup [.int x,.int y])):∃b t u n,v= .ref b∧f b=some (jB [.int x t,.int y u] n):=by
 cases a with
 |tup d c=>
  cases c with
  |cons g c=>
   cases c with
   |cons e c=>cases c;obtain⟨t,rfl⟩:=bP.jy g;obtain⟨u,rfl⟩:=bP.jy e;exact(jC _ _ _ _ ⟨rfl,d⟩)
theorem qk:∀{vs:List Value} {ps:List (Int×Int)},ds.mapM asPair=some ps→bQ f vs ds→bS f vs ps∧ds=ps.map ofPair:=by
 induction ds with
 |nil=>intro vs ps e o;cases o;exact one e ⟨.nil,rfl⟩
 |cons d ds i=>
  intro vs ps e o;cases o with
  |cons a r=>refine jU (P:=λps=>bS f _ ps∧_=ps.map ofPair) e λp l q g=>a9 (i g r) λk j=>tN (bP.NX (nH q▸a)) λc c c c b m=>?_;clear i e r g a;subst b;exact⟨.cons m k,by refine rl j (rl (nH q) ?_);rfl⟩
theorem zp(r:bQ g vs ds){i:Nat}(b:i<vs.length)(d:D):bP g (vs.getD i .none) (ds.getD i d):=by
 have a:i<ds.length:=by exact rr r.length b
 refine ay (r.get (List.getElem?_eq_getElem a)) λv e o=>rl (List.getD_eq_getElem?_getD) ?_;refine rl (List.getD_eq_getElem?_getD) ?_;refine rl e (rl (List.getElem?_eq_getElem a) ?_);exact o
theorem ph:∀{is:List Nat} {vs:List Value} {ds:List D} {k:Nat→D},bQ g vs ds→(∀i∈is,i<vs.length∧ds.getD i default=k i)→bQ g (is.map λi=>vs.getD i .none) (is.map k)
 |[],_,_,_,_,_=>.nil
 |i::_,_,_,_,r,a=>.cons ((a i (.head _)).2▸zp r (a i (.head _)).1 default) (ph r λj b=>a j (.tail _ b))
theorem uo:∀{l:List α} {le:α→α→Bool},l.length<2→cy le l=l
 |[],_,_=>rfl
 |[x],_,_=>rfl
 |_::_::_,_,h=>absurd h (by simp)
theorem nY(H:Hp h₀ f as s.heap σ)(V:Vr op f as env s.heap ρ)(g:s.heap.get? l=some (dR vs nn))(r:bQ f vs (ps.map ofPair))(P:bS f vs ps)(u:vs.length<64)
  (q:∀f' h' tk val,cH h₀ op env f as s.heap ρ σ f' h'→bP f' val (.lst ((cy b9 ps).map ofPair))→Q val {s with heap:=h',toks:=tk}):
  wpAny (model P0 w) A (call (.builtin "sorted") [.ref l]) Q E s:=by
 have b:=P.len;by_cases v:2≤vs.length
 ·obtain⟨m,N⟩:=V.ns;have I:∀a o,f a=some o→a≠env.locals:=λa o e z=>by rw[z,V.g7]at e;exact no e
  refine fF N ⟨_,g,rfl,nn,rfl⟩ H.on P I v u λD h' c tk p K k B x G J=>?_;have j:=cH.newObj H V (rX H V N K k) B J;refine q _ h' tk _ j (.lst (PM.bA ..) ?_);refine rr (nN (b▸x) (b▸G)) (rl List.map_map ?_);refine ph (r.mono j.step.le) λi C=>?_;have d:i<vs.length:=by simpa using(qj x).mem_iff.mp C
  refine⟨d,?_⟩;have t:i<ps.length:=by exact rZ b d
  simp[List.getD_eq_getElem?_getD,List.getElem?_map,List.getElem?_eq_getElem t]
 ·refine xr ⟨_,g,rfl,nn,rfl⟩ (By v) ?_;obtain⟨e,F⟩:=sortedAll_at s.heap vs vs.toArray;have j:=cH.newObj H V (cH.keeps H V (λy y=>sortedAll_old)) (aq (Nat.le_succ _)) F;refine q _ _ s.toks _ j (.lst (PM.bA ..) ?_);exact rl (uo (xH b v)) (r.mono j.step.le)
theorem v9:fb w h₀ .sorted (cC .sorted):=by
 refineλds z e n env op ρ σ A f as vs s Q E R H V S q=>gA e λx u b=>jM b λl t b=>aS b λhs b=>ay (t▸u▸S).one λv c o=>?_;clear R S u e;subst c;refine fG (o.lst H.on) λa vs m d g r=>?_;clear o;subst d;have i:vs.length<64:=by exact rl r.length (qv hs)
 clear hs;unfold yH at b;cases en:l.mapM c9 with
 |some ns=>
  rw[en]at b
  (revert q;refine one b ?_;intro q)
  refine bG (ints_of en r) λxs c j d=>?_;clear en b t;subst c;subst j;subst d;refine sorted_ints ⟨_,g,rfl,m,rfl⟩ intsAre_map i λk D J I G=>?_;obtain⟨e,F⟩:=sortedAll_at s.heap (xs.map λp=>Value.int p.1 p.2) k;have K:=cH.newObj H V (cH.keeps H V (λC C=>sortedAll_old)) (aq (Nat.le_succ _)) F;refine q _ _ s.toks _ K (.lst (by rw[PM.bA]) ?_);exact rr (ji I G) (m6 J)
 |none=>
  replace b:=en▸b;refine az b λps y B=>?_
  (revert q;refine one B ?_;intro q)
  refine a9 (qk y r) λP c=>?_;clear y b B en t;clear b;subst c;exact nY H V g r P i q
end
set_option tactic.hygienic true in
theorem qS(l:List Value)(h:TriplesOk l)(e:codeAmong pos (l++[rawInt a,rawInt b,c])=some cv):codeAmong pos l=some cv∨cv=c:=by
 fun_induction TriplesOk l with
 |case1=>
  dsimp only[List.nil_append,rawInt,codeAmong]at e;split at e
  ·exact one e (.inr rfl)
  ·exact no e
 |case2 o t m u x g i=>
  dsimp only[List.cons_append,codeAmong]at e⊢;split at e
  ·rename_i d;exact rl (if_pos d) (.inl e)
  ·rename_i d;exact rl (if_neg d) (i h e)
 |case3 l k j=>exact h.elim
theorem Ai(d:t∈iJ)(c:u∈iJ)(e:t.1=u.1):t=u:=by
 refine aT (List.mem_iff_getElem.mp d) λi b=>?_;clear d;obtain⟨hi,rfl⟩:=b;refine aT (List.mem_iff_getElem.mp c) λj b=>?_;clear c;obtain⟨hj,rfl⟩:=b;have a:∀i j:Fin 7,cT[i.1]'i.2=cT[j.1]'j.2→i=j:=by decide
 have g:cT[i]'hi=cT[j]'hj:=by have o:cT=iJ.map (λx=>x.1):=rfl;simpa only[o,List.getElem_map]using e
 have:=congrArg Fin.val (a ⟨i,hi⟩ ⟨j,hj⟩ g);have k:i=j:=this;clear e a g this;subst k;rfl
section
variable{w:World}{h₀ h h':Heap}{f f':PM}{as:List (Addr×Addr)}{σ σ':ak}{A:Around}{E:Value→Shared→Prop}{s:Shared}{n:Nat}{env:Env}{op:Bool}{ρ:aB}{Q:Value→Shared→Prop}{X Z:List Addr}
 {K:Frag}{mg mb:Str→Option Value}{sg:List D}
theorem Hp.MC(H:Hp h₀ f as h σ)(v:t∈iJ)(k:∀b o,b≠t.1→h.get? b=some o→h'.get? b=some o)(G:h.get? c'=none)(I:h'.get? c'=some d)(T:Ax (f.put c' d) h' t.1 t.2.2):Hp h₀ (f.put c' d) as h' σ:=by
 refine bR (H.off G) λJ L C=>?_;have le:=PM.cK (o:=d) J;have m:t.1∈cT:=List.mem_map.mpr ⟨t,v,rfl⟩;refine⟨λa o e=>?_,λb x q=>le _ _ (H.base b x q),λu r=>?_,λb B=>?_,H.len,λi p c e l=>(H.cells i p c e l).step le (λg=>?_) λg=>?_,H.apart,H.gE,λp y=>?_⟩
 ·by_cases z:a=c'
  ·cases z;rw[PM.bA]at e;exact one e I
  ·rw[PM.put,if_neg z]at e;exact k a o (λz=>by rw[z,H.jA _ m]at e;exact no e) (H.on a o e)
 ·by_cases z:u.1=t.1
  ·exact rl (Ai r v z) T
  ·refine bG (H.tabs u r) λps e F D=>⟨ps,k _ _ z e,F,λpos K q=>?_⟩;exact rT (D pos K q) λc' d vs t O N M=>(jC c' d vs t ⟨O,le _ _ N,M⟩)
 ·exact(if_neg λ(z:b=c')=>C (z▸B)).trans (H.jA b B)
 ·obtain⟨o,j⟩:=(H.cellAt e l g).1;rw[j,k _ _ (λ(z:p.2=t.1)=>H.gE p (List.mem_of_getElem? e) (z▸m)) j]
 ·exact(if_neg (L i p c e l g)).trans (H.cellAt e l g).2
 ·obtain⟨o,j⟩:=H.has p y;exact⟨o,k _ _ (λ(z:p.2=t.1)=>H.gE p y (z▸m)) j⟩
structure Aq(h₀:Heap)(env:Env)(t:Addr×Addr×Str):Prop where
 mem:t∈iJ
 code:env.code= .ref t.2.1
 hd:CodeHd h₀ t.2.1 t.1
 qual:env.qual++"<lambda>"=t.2.2
theorem pY(G:h8 K mg mb h₀ sg)(O:jq env)(L:Aq h₀ env t)(hl:fh k=⟨params,body,scope⟩)
  (r:defaultsOf params env=([],[]))(u:closureFor scope env=pure clos)(H:Hp h₀ f as s.heap σ)(cs:jp f clos bL)
  (q:∀f' h' tk val,Step f s.heap X Z f' h'→Hp h₀ f' as h' σ→bP f' val (.ie k bL)→Q val {s with heap:=h',toks:=tk}):
  wpAny (model P0 w) A (eval (.Lambda params body scope pos) env) Q E s:=by
 refine kla_eval r ?_;have hP:t.1∈cT:=List.mem_map.mpr ⟨t,L.mem,rfl⟩;refine bG (H.tabs t L.mem) λps U y W=>?_;have j:=H.all;have R:=G.g.keeps j;have C:=L.hd.keeps j;have hb:s.heap.BuiltinsAt mg t.1:=by exact HN (G.QY t.1 hP) λbm o b1 b2 b3 b4 b5 b6=>(fu bm o ⟨b1,b2,b3,b4,j _ _ b5,b6⟩)
 have P:mainGlobals≠t.1:=λz=>by refine fG R λo es ep e d J=>?_;rw[z,U]at e;(revert d;refine one e ?_;intro d);cases d
 cases hf:codeAmong pos ps.toList with
 |none=>
  refine kla_makeFunction u O.glob R L.code C U y hf P hb λc' g h' tk Y N hlt p M=>vD p λc2 D vs V z gc F B=>?_;cases z;have v:=aq N;have T:Ax (f.put c' D) h' t.1 t.2.2:=by
   refine⟨_,M,?_,λm cv ec=>?_⟩
   ·have:=TriplesOk_snoc pos.line pos.col (.ref c') _ y;simpa using this
   ·have S:codeAmong m (ps.toList++[rawInt pos.line,rawInt pos.col,.ref c'])=some cv:=by simpa using ec
    rcases qS _ y S with z|z
    ·exact rT (W _ _ z) λc3 o3 v3 t3 a1 a2 a3=>(jC c3 o3 v3 t3 ⟨a1,PM.cK (H.off v).1 _ _ a2,a3⟩)
    ·exact(jC c' D vs V ⟨z,PM.bA ..,F,L.qual▸B⟩)
  have H1:=H.MC L.mem (λb o z e=>Y b o z e) v gc T;have i:h'.get? h'.objs.size=none:=aq (Nat.le_refl _);have x:=H1.new (X:=X) (Z:=Z) (h':=h'.push (kla_obj "<lambda>" (env.qual++"<lambda>") params body scope clos ((mg "__name__").getD .none) c' g)) (λb o e=>Heap.get?_push_of_some _ e) i (Heap.get?_push_size _ rfl);refine q _ _ tk _ ?_ x.1 ?_
  ·have s1:Step f s.heap X Z (f.put c' D) h':=Step.put ⟨f.le_refl,λb o e J nt=>Y b o (λz=>nt (z▸hP)) e,λJ J e=>.inl e⟩ (H.off v).1 v;exact s1.trans x.2
  ·have c:=PM.cK (o:=kla_obj "<lambda>" (env.qual++"<lambda>") params body scope clos ((mg "__name__").getD .none) c' g) (H1.off i).1;have:=bP.ie
    (by rw[hl,PM.bA]) (c _ _ (PM.bA ..)) F B (cs.mono ((PM.cK (H.off v).1).trans c))
   exact this
 |some cv=>
  refine vD (W _ _ hf) λc' D vs V I fc F B=>?_;subst I;refine kla_makeFunctionHit u O.glob R L.code C U y hf hb λg h' tk hk i=>?_;have hs:=aq i;have x:=H.new (X:=X) (Z:=Z) (h':=h'.push (kla_obj "<lambda>" (env.qual++"<lambda>") params body scope clos ((mg "__name__").getD .none) c' g)) (λb o e=>Heap.get?_push_of_some _ (hk _ _ e)) hs (Heap.get?_push_size _ rfl);refine q _ _ tk _ x.2 x.1 ?_;have c:=PM.cK (o:=kla_obj "<lambda>" (env.qual++"<lambda>") params body scope clos ((mg "__name__").getD .none) c' g) (H.off hs).1;have:=bP.ie
   (by rw[hl,PM.bA]) (c _ _ fc) F (L.qual▸B) (cs.mono c)
  exact this
theorem DM(G:h8 K mg mb h₀ sg)(O:jq env)(L:Aq h₀ env t)(d:fh k=⟨params,body,scope⟩)
  (a:defaultsOf params env=([],[]))(c:closureFor scope env=pure []):aY w h₀ n env op op (.Lambda params body scope pos) (aH C (.lam k [])):=by
 exactλρ σ v σ' e=>two e λA f as s Q E R H V q=>pY G O L d a c H .nil λf' h' tk b S g i=>q f' h' tk b (cH.of V S g) i
theorem M8(e:wm ρ [x]=some l):∃d,ρ.lookup x=some (.d d)∧l=[(x,d)]:=by
 rw[wm,List.mapM_cons,List.mapM_nil]at e;cases ex:ρ.lookup x with
 |none=>rw[ex]at e;exact no e
 |some W=>
  rw[ex]at e;clear ex;cases W with
  |loc j=>exact no e
  |d d=>simp at e;exact⟨d,rfl,e.symm⟩
theorem DN{x:Nat}(G:h8 K mg mb h₀ sg)(O:jq env)(L:Aq h₀ env t)(hl:fh k=⟨params,body,scope⟩)
  (D:defaultsOf params env=([],[]))(P:closureFor scope env=pure [(nm x,c)])(hk:env.kindOf (nm x)=some .cell)(U:env.cells.lookup (nm x)=some c):aY w h₀ n env true false (.Lambda params body scope pos) (aH C (.lam k [x])):=by
 refineλρ σ v σ' e=>az e λl el e=>ay (M8 el) λd ex J=>?_;clear el;subst J;refine two e λA f as s Q E R H V q=>a9 (V.vars x _ ex) λlt r=>ay r λu B o=>?_;have g:=PySem.mem_of_lookup U;obtain⟨F,eo,ed⟩:s.heap.IsCell c (some u):=by
  refine Or.elim B (λi=>?_) λi=>?_
  ·refine a9 i λN i=>?_;replace N:=hk▸N;cases N
  ·refine a9 i λi r=>ay r λc2 e2 I=>?_;rw[U]at e2;(revert I;refine one e2 ?_;intro I);exact I
 have fc:f c=none:=V.jJ rfl _ g;have ca:c∈Env.adr env:=List.mem_cons_of_mem _ (List.mem_map.mpr ⟨_,g,rfl⟩);have le:=PM.cK (o:=F) fc;have H1:=H.put fc (λj p i e1 i i z=>V.apart p (List.mem_of_getElem? e1) (z▸ca)) (V.tab c ca) eo;have S1:Step f s.heap (as.map (λx=>x.2)++Env.adr env) (Env.qK env) (f.put c F) s.heap:=by
  refine⟨le,kQ.refl _ _,λb x q=>?_⟩;by_cases Y:b=c
  ·exact .inr (.inr (.inr (.inl (Y▸List.mem_map.mpr ⟨_,g,rfl⟩))))
  ·rw[PM.put,if_neg Y]at q;exact .inl q
 have V1:Vr false (f.put c F) as env s.heap ρ:=by
  refine⟨V.ok,λy W ey=>?_,V.ns,V.cell,V.apart,V.tab,?_,(λz=>nomatch z),V.inj,V.ig⟩
  ·exact a9 (V.vars y W ey) λl1 r=>ay r λv1 B1 o1=>⟨l1,v1,B1,o1.mono le⟩
  ·exact(if_neg λz=>V.ig _ g z.symm).trans V.g7
 have D1:jp (f.put c F) [(nm x,c)] [(x,d)]:=.cons (PM.bA ..) ed (bP.mono le o) .nil;refine pY (X:=as.map (λx=>x.2)) (Z:=[]) G O L hl D P H1 D1 λf' h' tk M S H' D'=>q f' h' tk M ?_ D';have T:=cH.of V1 S H';exact⟨S1.trans T.step,T.hp,T.vr⟩
end
section
variable{w:World}{h₀ h h':Heap}{f f':PM}{as:List (Addr×Addr)}{σ σ':ak}{A:Around}{E:Value→Shared→Prop}{s:Shared}{n:Nat}{env:Env}{op:Bool}{ρ:aB}{Q:Value→Shared→Prop}{X Z:List Addr}{C:Mine.Sem}
 {K:Frag}{mg mb:Str→Option Value}{sg:List D}
theorem dj(d:aY w h₀ n env op op a (aH C (.int k))):aY w h₀ n env op op (.UnaryOp .USub a pos) (aH C (.int (-k))):=by refineλρ σ v σ' e=>two e ?_;refineλA f as s Q E R H V q=>wpAny_UnaryOp (d ρ σ (.d (.int k)) σ rfl A f as s _ E R H V λi g c v j o=>?_);refine aT (bP.jy o) λt b=>?_;clear d e R H V o;subst b;exact neg_int (q i g (c+1) _ j (.int _ _))
theorem q8{T:String}(g:eW w h₀ n env op dU l (bH C tl))(e:bH C tl ρ σ=some (xs,σ'))(R:bO A n)(H:Hp h₀ f as s.heap σ)(V:Vr op f as env s.heap ρ)
  (q:∀f' h' tk vs,cH h₀ dU env f as s.heap ρ σ' f' h'→cV f' as vs xs→wpAny (model P0 w) A (call (.builtin T) (first++vs)) Q E {s with heap:=h',toks:=tk}):
  wpAny (model P0 w) A (callWith pos (.builtin T) first (backTo pos (starEach l env)) (backToKw pos (keywordEach [] env))) Q E s:=by
 have a:=g.2 pos;refine Calls.callWith_builtin a ?_;have c:=g.1 ρ σ xs σ' e pos A f as s (λvs d=>wpAny (model P0 w) A (call (.builtin T) (first++vs)) Q E d) E R H V λf' h' tk vs i o1=>q f' h' tk vs i o1;generalize backTo pos (starEach l env)=ts at c a;cases ts with
 |nil=>exact evalArgs_none c
 |cons t r=>
  obtain⟨b,x⟩:=t;cases b with
  |true=>rw[List.any_cons]at a;exact tf a
  |false=>exact evalArgs_plain c
theorem yF(G:i7 h₀)
  (O:eval (.Call (.Attribute a "get" apos) [k,e] [] pos) env=(do let ov←eval a env;standAt apos.atName;let(f,first)←holding [ov] (getMethod ov "get" pl);callWith pos f first (backTo pos (starEach [k,e] env)) (backToKw pos (keywordEach [] env))))
  (Y:aY w h₀ n env op op a (aH C ta))(W:eW w h₀ n env op op [k,e] (bH C (.cons tk (.cons te .nil)))):
  aY w h₀ n env op op (.Call (.Attribute a "get" apos) [k,e] [] pos) (aH C (.get ta tk te)):=by
 refineλρ σ v σ' c=>au c λva σ1 U c=>az c λl1 o c=>au c λi σ2 S c=>au c λx σ3 ee c=>az c λl m c=>two c λA f as s Q E R H V q=>?_;have P:=vv (gM S) (oq ee);refine methodCall_KW (Y ρ σ va σ1 U A f as s _ E R H V λf1 h1 DZ v1 r o1=>?_) O;refine iL ((r.hp.view (yP o) o1).dct r.hp.on) λb es1 k1 y M J r1=>?_;subst y;refine getMethod_builtin ⟨_,M,rfl⟩ PySem.F.plainAttrs_dict PySem.F.slot_dict_get PySem.F.type_dict_get (λz ez=>by cases ez;exact⟨_,M,rfl⟩) ?_;refine q8 (first:=[.ref b]) W P R r.hp r.vr λf2 K g vs p o2=>iL ((p.hp.view (yP m) (o1.mono p.step.le)).dct p.hp.on) λb' P8 k2 T L I N=>?_;obtain rfl:=Value.ref.inj T;refine fP o2.two λj j B o3 o4=>?_;clear O Y W U o S ee m c R H V P M J r1 o1 o2 T;subst B;obtain⟨t,rfl⟩:=bP.jy o3;refine ay (dB L I N) λkvs da Ka=>call_meetsIn PySem.F.slot_dict_get (s:={s with heap:=K,toks:=g}) ⟨_,L,rfl⟩ PySem.F.entry_dict_get (PySem.F.args_dict_get_3 _ _ _) (meets_dict_get_default (intKind P0 w) b (intKind_is P0 w i t) (gm (s:={s with heap:=K,toks:=g}) G p.hp L N) _) ⟨_,da.mapOf,?_⟩;refine q f2 K (g+1) _ (r.trans p) ?_;refine Or.elim (Ka.at i) (λj=>?_) λj=>?_
 ·exact a9 j λF D=>rl F (rl D o4)
 ·exact fP j λu d F D z3=>rl F (rl D z3)
theorem bQ.rev:∀{vs:List Value} {ds:List D},bQ g vs ds→bQ g vs.reverse ds.reverse
 |_,_,.nil=>.nil
 |_,_,.cons a r=>by refine rl List.reverse_cons (rl List.reverse_cons ?_);exact r.rev.append (.cons a .nil)
theorem GY{st:Expr}(J:aY w h₀ n env op op a (aH C ta))(I:aY w h₀ n env op op st (aH C (.int (-1))))
  (hs:∀o i,subscripted (.Slice none none (some st) p) false o i=operate [o,i] (getItem o i))(O:∀o r,letTemporaryGo a o r=pure ()):
  aY w h₀ n env op op (.Subscript a (.Slice none none (some st) p) pos) (aH C (.rev ta)):=by
 refineλρ σ v σ' c=>au c λL σ1 G c=>az c λl F c=>aS c λS c=>two c ?_;refineλA f as s Q E R H V q=>Subscript_ (J ρ σ L σ1 G A f as s _ E R H V λW T x v1 B o1=>?_);refine wpAny_Slice ?_;refine evalPart_none_step (evalPart_none_step (evalPart_some_step ?_));refine I ρ σ1 (.d (.int (-1))) σ1 rfl A W as {s with heap:=T,toks:=x} _ E R B.hp B.vr λf2 y j v2 d o2=>aT (bP.jy o2) λt u=>?_;clear J I G c R H V o2;subst u;refine fG ((d.hp.view (oF F) (o1.mono d.step.le)).lst d.hp.on) λb vs m k g r=>?_;clear F c o1;subst k;refine aT d.vr.ns λm' N=>krv_lit (s:={s with heap:=y,toks:=j}) (sP N) qg ⟨_,g,rfl,m,rfl⟩ (.int _ _) rfl (λD h' Y z M=>?_) (hs _ _) (O _) (by simp[r.length];exact dX S);have U:y.get? D=none:=by
  cases e:y.get? D with
  |none=>rfl
  |some o=>exact absurd (M (D,o) (fR.mpr ⟨(z _ (.head _)).2.1,e⟩)) (Nat.lt_irrefl _)
 have K:=cH.newObj d.hp d.vr (rX d.hp d.vr N Y (kD z λp P=>List.mem_cons_of_mem _ P)) U (z _ (.head _)).1;refine q _ h' j _ ((B.trans d).trans K) (.lst (by rw[PM.bA]) (r.rev.mono K.step.le))
theorem LY{x:Str}(a:k≤x.length):(Builtin.Str.strSliceIndices none (some (k:Int)) 1 x.length).filterMap (λy=>x.cps[y]?)=x.cps.toList.take k:=by
 have e:Builtin.Str.strSliceIndices none (some (k:Int)) 1 x.length=Builtin.Str.strSliceIndices (some ((0:Nat):Int)) (some (k:Int)) 1 x.length:=by
  have d:max (0:Int) (min (0:Int) (x.length:Int))=0:=by exact r7
  have c:¬((x.length:Int)<0):=by lia
  have b:max (0:Int) (min (x.length:Int) (x.length:Int))=x.length:=by lia
  rfl
 refine rl e (rl (StrLaws.sliced_plain x (Nat.zero_le _) a) ?_)
 rfl
theorem ww{x:Str}(a:k≤x.length):(Builtin.Str.strSliceIndices none (some (k:Int)) 1 x.length).length=k:=by
 have e:Builtin.Str.strSliceIndices none (some (k:Int)) 1 x.length=Builtin.Str.strSliceIndices (some ((0:Nat):Int)) (some (k:Int)) 1 x.length:=by
  have d:max (0:Int) (min (0:Int) (x.length:Int))=0:=by exact r7
  have c:¬((x.length:Int)<0):=by lia
  have b:max (0:Int) (min (x.length:Int) (x.length:Int))=x.length:=by lia
  rfl
 refine rl e (rl (StrLaws.strSliceIndices_plain (Nat.zero_le _) a) ?_);simp
theorem sG{x:Str}(a:k≤x.length):(Builtin.Str.strSliceIndices (some (k:Int)) none 1 x.length).length=x.length-k:=by
 have e:Builtin.Str.strSliceIndices (some (k:Int)) none 1 x.length=Builtin.Str.strSliceIndices (some (k:Int)) (some (x.length:Int)) 1 x.length:=by
  have d:max (0:Int) (min (0:Int) (x.length:Int))=0:=by exact r7
  have c:¬((x.length:Int)<0):=by lia
  have b:max (0:Int) (min (x.length:Int) (x.length:Int))=x.length:=by lia
  simp only[Builtin.Str.strSliceIndices,c,b,show((1:Int)>0) by decide,if_true,if_false]
 refine rl e (rl (StrLaws.strSliceIndices_plain a (Nat.le_refl _)) ?_);simp
theorem BV{x:Str}(a:k≤x.length):(Builtin.Str.strSliceIndices (some (k:Int)) none 1 x.length).filterMap (λy=>x.cps[y]?)=x.cps.toList.drop k:=by
 have e:Builtin.Str.strSliceIndices (some (k:Int)) none 1 x.length=Builtin.Str.strSliceIndices (some (k:Int)) (some (x.length:Int)) 1 x.length:=by
  have d:max (0:Int) (min (0:Int) (x.length:Int))=0:=by exact r7
  have c:¬((x.length:Int)<0):=by lia
  have b:max (0:Int) (min (x.length:Int) (x.length:Int))=x.length:=by lia
  simp only[Builtin.Str.strSliceIndices,c,b,show((1:Int)>0) by decide,if_true,if_false]
 refine rl e (rl (StrLaws.sliced_plain x a (Nat.le_refl _)) ?_);rw[List.take_of_length_le];simp[Str.length]
theorem rH
  (h:wpAny (model P0 w) A (eval value env) (λo k=>wpAny (model P0 w) A (evalPart lower env) (λH j=>wpAny (model P0 w) A (evalPart upper env) (λG b=>
   ∃x t l u,o= .str x t∧H=partValue l∧G=partValue u∧
    (sliceMade x t l u none).post Q {b with heap:=b.heap.push {cls:=.type "slice",data:=.fields #[H,G,.none]}}) E j) E k) E s):
  wpAny (model P0 w) A (eval (.Subscript value (.Slice lower upper none p) pos) env) Q E s:=by
 rw[eval_Subscript];refine wpAny_bind (wpAny_mono h (λo k v=>?_) λd d x=>x);refine wpAny_bind (wpAny_holding (wpAny_Slice (wpAny_mono v (λH j q=>wpAny_mono q (λG b m=>?_) λd d e=>e) λd d e=>e)));refine vD m λx t l u D B z K=>?_;clear h v q m;subst D;subst B;subst z;rw[evalPart_none];refine wpAny_pure (wpAny_bind (wpAny_standAt ?_));have I:Shared.TypeIs {b with heap:=b.heap.push {cls:=.type "slice",data:=.fields #[partValue l,partValue u,.none]}} (.str x t) "str":=typeIs_str _ x t;have c:∀i,i=Value.ref b.heap.objs.size→wpAny (model P0 w) A (operate [i,.str x t] (getItem (.str x t) i)) (λr g=>wpAny (model P0 w) A (letTemporaryGo value (.str x t) r>>=λd=>pure r) Q E g) E
   {b with heap:=b.heap.push {cls:=.type "slice",data:=.fields #[partValue l,partValue u,.none]}}:=λi J=>by
  subst J;exact wpAny_operating (wpAny_mono (wpAny_getItem_str_slice ⟨_,Heap.get?_push_size _ rfl,rfl,rfl⟩ rfl K) (λr g y=>wpAny_bind (wpAny_letTemporaryGo (wpAny_pure y))) λd d e=>e)
 first
  |(refine wpAny_bind (rl (getitemInPython_of_ne I.not_modules) ?_);refine wpAny_bind (wpAny_specialOf I F.slot_str_getitem.lookup ?_);first|exact wpAny_pure (wpAny_bind (c _ rfl))|exact wpAny_bind (wpAny_pure (wpAny_bind (c _ rfl)))|exact wpAny_bind (c _ rfl))
  |(refine wpAny_bind (wpAny_specialOf I F.slot_str_getitem.lookup ?_);first|exact wpAny_bind (wpAny_pure (wpAny_bind (c _ rfl)))|exact wpAny_bind (c _ rfl))
set_option tactic.hygienic true in
theorem Ad(U:aY w h₀ n env op op a (aH C ta))(T:aY w h₀ n env op op hi (aH C ti)):
  aY w h₀ n env op op (.Subscript a (.Slice none (some hi) none p) pos) (aH C (.ue ta ti)):=by
 refineλρ σ v σ' d=>au d λx σ1 S d=>au d λk j P d=>aS d λB d=>two d ?_;intro A f as s Q E R H V q;simp only[Bool.and_eq_true,decide_eq_true_eq]at B;obtain⟨K,o,J⟩:=B;refine rH (U ρ σ _ σ1 (yr S) A f as s _ E R H V λN M l Y z o1=>?_);obtain⟨t,rfl⟩:=bP.DP o1;refine evalPart_none_step (evalPart_some_step ?_);refine T ρ σ1 _ j (gM P) A N as {s with heap:=M,toks:=l} _ E R z.hp z.vr λf2 L g W r o2=>?_;obtain⟨u,rfl⟩:=bP.jy o2;refine(jC x t none (some (k,u)) ⟨rfl,rfl,rfl,?_⟩);have F:=(z.trans r).trans (cH.keeps r.hp r.vr (h':=L.push {cls:=.type "slice",data:=.fields #[.none,.int k u,.none]}) λG G e=>Heap.get?_push_of_some _ e);have D:=Int.toNat_of_nonneg o;have b:k.toNat≤x.length:=by lia
 have c:(slicePicked x none (some (k,u)) none).filterMap (λy=>x.cps[y]?)=x.cps.toList.take k.toNat:=by have:=LY b;exact D▸this
 have i:(slicePicked x none (some (k,u)) none).length=k.toNat:=by have:=ww b;exact D▸this
 unfold sliceMade;split
 ·rename_i I;have m:k.toNat=x.length:=by simpa[i]using I
  have O:(⟨(x.cps.toList.take k.toNat).toArray⟩:Str)=x:=by apply Str.ext';rw[List.take_of_length_le (by refine rl m ?_;simp[Str.length])]
  replace q:=O▸q;exact q _ _ g _ F (.str _ _)
 ·refine rl c ?_;refine⟨?_,q _ _ (g+1) _ F (.str _ _)⟩;have:=iP K;show(List.take k.toNat x.cps.toList).toArray.size≤_;refine rl sizeLine_eq ?_;simp;exact Ez b this
set_option tactic.hygienic true in
theorem vh{B:Expr}(Ha:aY w h₀ n env op op a (aH C ta))(Y:aY w h₀ n env op op B (aH C ti)):
  aY w h₀ n env op op (.Subscript a (.Slice (some B) none none p) pos) (aH C (.mj ta ti)):=by
 refineλρ σ v σ' d=>au d λx σ1 W d=>au d λk l U d=>aS d λD d=>two d ?_;intro A f as s Q E R H V q;simp only[Bool.and_eq_true,decide_eq_true_eq]at D;obtain⟨N,o,M⟩:=D;refine rH (Ha ρ σ _ σ1 (yr W) A f as s _ E R H V λS P m v1 z o1=>?_);obtain⟨t,rfl⟩:=bP.DP o1;refine evalPart_some_step ?_;refine Y ρ σ1 _ l (gM U) A S as {s with heap:=P,toks:=m} _ E R z.hp z.vr λf2 O g v2 r o2=>?_;obtain⟨u,rfl⟩:=bP.jy o2;refine evalPart_none_step ?_;refine(jC x t (some (k,u)) none ⟨rfl,rfl,rfl,?_⟩);have I:=(z.trans r).trans (cH.keeps r.hp r.vr (h':=O.push {cls:=.type "slice",data:=.fields #[.int k u,.none,.none]}) λJ J e=>Heap.get?_push_of_some _ e);have G:=Int.toNat_of_nonneg o;have b:k.toNat≤x.length:=by lia
 have c:(slicePicked x (some (k,u)) none none).filterMap (λy=>x.cps[y]?)=x.cps.toList.drop k.toNat:=by have:=BV b;exact G▸this
 have j:(slicePicked x (some (k,u)) none none).length=x.length-k.toNat:=by have:=sG b;exact G▸this
 unfold sliceMade;split
 ·rename_i L;have i:x.length-k.toNat=x.length:=by simpa[j]using L
  have T:(⟨(x.cps.toList.drop k.toNat).toArray⟩:Str)=x:=by
   apply Str.ext';by_cases F:k.toNat=0
   ·refine rl F ?_;rfl
   ·have K:x.cps.size=0:=by unfold Str.length at i b;exact Ju i F
    have:x.cps=#[]:=Array.eq_empty_of_size_eq_zero K;refine rl this ?_;simp
  replace q:=T▸q;exact q _ _ g _ I (.str _ _)
 ·refine rl c ?_;refine⟨?_,q _ _ (g+1) _ I (.str _ _)⟩;have:=iP N;unfold Str.length at this;show(List.drop k.toNat x.cps.toList).toArray.size≤_;refine rl sizeLine_eq ?_;simp;exact Ky this
end
section
variable{w:World}{h₀ h h':Heap}{f f':PM}{as:List (Addr×Addr)}{σ σ':ak}{A:Around}{E:Value→Shared→Prop}{s:Shared}{n:Nat}{env:Env}{op:Bool}{ρ:aB}{Q:Value→Shared→Prop}{X Z:List Addr}{C:Mine.Sem}
 {K:Frag}{mg mb:Str→Option Value}{sg:List D}
theorem vf:qP w h₀ n env op (eval (.Dict [] [] pos) env) (fK C (.dct [] .nil)):=by
 refineλρ σ v σ' e=>two e ?_;intro A f as s Q E R H V q;have a:s.heap.get? s.heap.objs.size=none:=aq (Nat.le_refl _);have c:∀b o',s.heap.get? b=some o'→(s.heap.push (dm [] 0)).get? b=some o':=λb o' e=>Heap.get?_push_of_some _ e;refine wpAny_Dict_empty ?_;refine q f (s.heap.push (dm [] 0)) s.toks (s.heap.objs.size,s.heap.objs.size) (Step.keeps c) ?_ ?_ a
 ·exact H.mL (o:=dm [] 0) c a ⟨rfl,(H.off a).1,[],0,Heap.get?_push_size _ rfl,by trivial,.nil⟩ rfl
 ·exact(V.step0 (Step.keeps c)).more (V.off a)
theorem Aa(G:h8 K mg mb h₀ sg)(B:bW env mg "list" (.type "list"))(y:eW w h₀ n env op op [a] (bH C (.cons ta .nil))):
  qP w h₀ n env op (eval (.Call (.Name "list" np) [a] [] pos) env) (fK C (.blt .list (.cons ta .nil))):=by
 refineλρ σ v σ' e=>au e λJ σ1 x e=>az e λl u e=>aS e λz e=>two e ?_;refineλA f as s Q E R H V q=>wpAny_Call_Name_kw (B.eval G H V.ok (gR y (kE x) R H V λD d t vs c o1=>?_));refine ay o1.one λI p o2=>?_;clear G B y x e R H V o1;subst p;refine fG ((c.hp.view (oF u) o2).lst c.hp.on) λb vs m j g r=>?_;clear u e o2;subst j;refine call_list_seq b (.inl rfl) g rfl rfl (λh' c' k F=>?_) (by simp[r.length];exact dX z);have i:d.get? d.objs.size=none:=aq (Nat.le_refl _);refine q D h' t (d.objs.size,d.objs.size) (c.step.trans (Step.keeps k)) ?_ ((c.vr.step0 (Step.keeps k)).more (c.vr.off i)) (c.gone i);exact c.hp.mL (o:=dR vs c') k i ⟨rfl,(c.hp.off i).1,vs,c',F,r⟩ rfl
theorem G5:∀{ss:List Str} {vs:List Value},l.mapM Hj=some ss→bQ f vs l→∃xs:List (Str×Tok),vs=strValues xs∧xs.map (λx=>x.1)=ss:=by
 induction l with
 |nil=>intro ss vs e a;cases a;exact one e ⟨[],rfl,rfl⟩
 |cons d l c=>
  intro ss vs e a;rw[List.mapM_cons]at e;refine ay (Option.bind_eq_some_iff.mp e) λx hs e=>ay (Option.bind_eq_some_iff.mp e) λg h' e=>?_;cases a with
  |cons a r=>refine ay (c h' r) λxs b i=>?_;clear c h' r;subst b;replace a:=(tW hs)▸a;refine aT (bP.DP a) λt b=>?_;clear hs a;subst b;exact one e ⟨(x,t)::xs,rfl,by rw[List.map_cons,i]⟩
theorem pT:∀(ss:List Str) (a:Str),ss.foldl (λx y=>x++y) a=a++Str.join Str.empty ss
 |[],a=>(Str.append_empty a).symm
 |[x],a=>rfl
 |x::y::r,a=>by rw[List.foldl_cons,pT (y::r)];show a++x++_=a++(x++Str.empty++Str.join Str.empty (y::r));rw[Str.append_empty,Str.append_assoc]
theorem vp:∀(ss:List Str) (a:Nat),ss.foldl (λn s=>n+s.length) a=a+(ss.map (λx=>x.length)).sum
 |[],a=>by rfl
 |x::r,a=>by rw[List.foldl_cons,vp r];simp;exact JX
theorem DK(F:aY w h₀ n env op op c (aH C (.str "")))
  (D:eval (.Call (.Attribute c "join" apos) [a] [] pos) env=(do let ov←eval c env;standAt apos.atName;let(f,first)←holding [ov] (getMethod ov "join" pl);callWith pos f first (backTo pos (starEach [a] env)) (backToKw pos (keywordEach [] env))))
  (L:eW w h₀ n env op op [a] (bH C (.cons ta .nil))):aY w h₀ n env op op (.Call (.Attribute c "join" apos) [a] [] pos) (aH C (.join ta)):=by
 refineλρ σ v σ' d=>au d λY σ1 K d=>az d λl J d=>az d λp I d=>aS d λO d=>two d ?_;refineλA f as s Q E R H V q=>methodCall_KW (F ρ σ _ σ rfl A f as s _ E R H V λf1 h1 M v1 z o1=>?_) D;refine aT (bP.DP o1) λt e=>?_;clear F D d H V o1;subst e;refine GM.join ?_;refine q8 (first:=[.str _ t]) L (kE K) R z.hp z.vr λP G o vs u o2=>ay o2.one λW e B=>?_;clear L K d R o2;subst e;refine fG ((u.hp.view (oF J) B).lst u.hp.on) λb vs m j g r=>?_;clear J d B;subst j;refine ay (G5 I r) λxs e N=>?_;clear d I r;subst e;have U:Str.ofString ""=Str.empty:=by decide+kernel
 refine SC.join (s:={s with heap:=G,toks:=o}) ⟨_,g,rfl,m,rfl⟩ N ?_ λt' k=>?_
 ·unfold JoinOk Builtin.Str.tooLong;have i:=iP O;rw[vp]at i;have T:(Str.ofString "").length=0:=by refine rl U ?_;rfl
  rw[StrLaws.joinTotal,T,Nat.mul_zero,Nat.add_zero];have:¬(p.map (λx=>x.length)).sum>sizeLine:=by exact rl sizeLine_eq (J3 i)
  simp[this]
 ·have S:Txt.join (Str.ofString "") p=p.foldl (λx y=>x++y) Str.empty:=by simp only[pT,Str.empty_append];exact StrLaws.glued_eq_join _ _
  exact rl S (q P G k _ (z.trans u) (.str _ _))
end
section
variable{w:World}{h₀ h h':Heap}{f f':PM}{as:List (Addr×Addr)}{σ σ':ak}{A:Around}{E:Value→Shared→Prop}{s:Shared}{n:Nat}{env:Env}{op:Bool}{ρ:aB}{X Z:List Addr}{C:Mine.Sem}
 {K:Frag}{mg mb:Str→Option Value}{sg:List D}
inductive jF(w:World)(h₀:Heap)(n:Nat)(env:Env)(op:Bool)(C:Mine.Sem):List (Option Expr)→List Expr→List Int→Ts→Prop
 |nil:jF w h₀ n env op C [] [] [] .nil
 |cons {k v:Expr} {ks:List (Option Expr)} {vs:List Expr} {i:Int} {is:List Int} {tv:T} {tl:Ts}:aY w h₀ n env op op k (aH C (.int i))→aY w h₀ n env op op v (aH C tv)→jF w h₀ n env op C ks vs is tl→jF w h₀ n env op C (some k::ks) (v::vs) (i::is) (.cons tv tl)
inductive Kp:List (Value×Value)→List Int→List Value→Prop
 |nil:Kp [] [] []
 |cons {i:Int} {t:Tok} {v:Value} {ps:List (Value×Value)} {is:List Int} {vs:List Value}:Kp ps is vs→Kp ((.int i t,v)::ps) (i::is) (v::vs)
theorem jF.shape{b:List Int}{c:Ts}(P:jF w h₀ n env op C keys values b c):keys.all (λx=>x.isSome)=true∧keys.length=values.length∧keys.length=b.length:=by
 induction P with
 |nil=>exact⟨rfl,rfl,rfl⟩
 |cons _ _ _ a=>exact⟨by simpa using a.1,by simp[a.2.1],by simp[a.2.2]⟩
theorem jF.run{l:List Int}{k:Ts}(P:jF w h₀ n env op C keys values l k):∀{ρ:aB} {σ σ':ak} {xs:List V} {f:PM} {s:Shared} {Q:List (Value×Value)→Shared→Prop},bH C k ρ σ=some (xs,σ')→
  bO A n→Hp h₀ f as s.heap σ→Vr op f as env s.heap ρ→(∀f' h' tk ps vs,cH h₀ op env f as s.heap ρ σ' f' h'→cV f' as vs xs→Kp ps l vs→Q ps {s with heap:=h',toks:=tk})→
  wpAny (model P0 w) A (evalPairs (pairTrees keys values env pos)) Q E s:=by
 induction P with
 |nil=>
  intro ρ σ σ' xs f s Q e R H V q
  revert q
  exact two e λq=>pairTrees_nil_walk (q f s.heap s.toks [] [] (.refl H V) .nil .nil)
 |cons m y P v=>
  intro ρ σ σ' xs f s Q e R H V q
  revert q
  refine au e λx σ1 I e=>au e λr p g e=>two e λq=>pairTrees_cons_walk (m ρ σ _ σ rfl A f as s _ E R H V λG D d L j o1=>?_);refine aT (bP.jy o1) λt a=>?_;clear m P H V e o1;subst a;exact y ρ σ x σ1 I A G as {s with heap:=D,toks:=d} _ E R j.hp j.vr λM B c K i o2=>v (s:={s with heap:=B,toks:=c}) g R i.hp i.vr λF z b ps vs o u J=>q F z b _ _ ((j.trans i).trans o) (.cons (o2.mono o.step.le) u) (.cons J)
theorem Kp.FU{vs:List Value}(h:Kp ps is vs):Carries (intKind P0 w) ps (is.zip vs):=by
 induction h with
 |nil=>trivial
 |cons _ a=>exact⟨intKind_is P0 w _ _,rfl,a⟩
theorem wW{d:List Int}:∀{vs:List Value} {ds:List D} {acc:List (Int×Value)} {l:List (Int×D)},bQ f vs ds→(l.map (λx=>x.1)).Nodup→lQ f acc l→
  lQ f (merged acc (d.zip vs)) ((d.zip ds).foldl (λm p=>fm m p.1 p.2) l)∧(((d.zip ds).foldl (λm p=>fm m p.1 p.2) l).map (λx=>x.1)).Nodup:=by
 induction d with
 |nil=>intro vs ds acc l _ c r;exact⟨r,c⟩
 |cons i d e=>
  intro vs ds acc l h c r;cases h with
  |nil=>exact⟨r,c⟩
  |cons a b=>exact e b (nc c) (lQ.stored a c r)
theorem oz(P:jF w h₀ n env op C keys values ks tl)(h0:keys≠[]):aY w h₀ n env op op (.Dict keys values pos) (aH C (.dct ks tl)):=by
 refineλρ σ v σ' e=>au e λxs σ1 e1 e=>au e λds u e2 e=>aS e λK e=>two e ?_;intro A f as s Q E R H V q;simp only[Bool.and_eq_true,Nat.ble_eq]at K;refine bR P.shape λT s2 S=>?_;have B:s.heap.get? s.heap.objs.size=none:=aq (Nat.le_refl _);have kp:∀b o',s.heap.get? b=some o'→(s.heap.push (dm [] 0)).get? b=some o':=λb o' e=>Heap.get?_push_of_some _ e;have J:=cH.keeps H V kp;have L:(s.heap.push (dm [] 0)).get? s.heap.objs.size=some (dm [] 0):=Heap.get?_push_size _ rfl;refine lR (uQ H V B) λfa g c l=>wpAny_Dict_walk (knd:=intKind P0 w) T s2 h0 (by refine rl S ?_;exact K.2) ?_;refine P.run (s:={s with heap:=s.heap.push (dm [] 0)}) e1 R J.hp J.vr λG h1 N ps vs t o1 I=>?_;have r:=t.step.keep _ _ L (λz=>by
  refine Or.elim (List.mem_append.mp z) (λz=>?_) λz=>?_
  ·exact ay (List.mem_map.mp z) λp m z=>g p m z
  ·exact c z) l
 have F:G s.heap.objs.size=none:=by
  cases z:G s.heap.objs.size with
  |none=>rfl
  |some o=>
   refine Or.elim (t.step.new _ _ z) (λw=>?_) λd=>Or.elim d (λw=>?_) λd=>Or.elim d (λw=>?_) λd=>Or.elim d (λw=>?_) λw=>?_
   ·rw[fa]at w;exact no w
   ·rw[L]at w;exact on w
   ·refine Or.elim (List.mem_append.mp w) (λw=>?_) λw=>?_
    ·exact ay (List.mem_map.mp w) λp m w=>absurd w (g p m)
    ·exact absurd w c
   ·exact absurd (List.mem_cons_of_mem _ w) c
   ·exact absurd w l
 refine bG (t.hp.pM o1 e2) λD H2 M d2=>?_;have A2:=t.trans (cH.of t.vr M H2);refine⟨_,I.FU,?_,λh' dO O=>?_⟩
 ·refine ay (dB (w:=w) (f:=G) r (by simp) .nil) λkvs da Ka=>?_;cases Ka;exact da
 ·refine a9 (wW d2 (by simp) .nil) λmk Y=>fP (ni dO mk) λes k g' d U=>?_;have j:D s.heap.objs.size=none:=by
   cases z:D s.heap.objs.size with
   |none=>rfl
   |some o=>
    refine Or.elim (M.new _ _ z) (λw=>?_) λd=>Or.elim d (λw=>?_) λd=>Or.elim d (λw=>?_) λd=>Or.elim d (λw=>?_) λw=>?_
    ·rw[F]at w;exact no w
    ·rw[r]at w;exact on w
    ·exact ay (List.mem_map.mp w) λp m w=>absurd w (g p m)
    ·cases w
    ·exact absurd w l
  have A3:cH h₀ op env f as s.heap ρ u D h':=by have i:=J.trans A2;have y:∀b,b≠s.heap.objs.size→h'.get? b=h1.get? b:=λb hb=>O.2 b hb;refine⟨⟨i.step.le,λb o e W x=>?_,i.step.new⟩,i.hp.but y j g l,i.vr.go λa ha o e=>(y a (λz=>c (z▸ha))).trans e⟩;refine rl (y b (λz=>by rw[z,B]at e;exact no e)) ?_;exact i.step.keep b o e W x
  have A4:=A3.more B j g c l g';exact q _ h' _ _ A4 (.dct (PM.bA ..) Y (U.mono (PM.cK j)))
end
theorem zM:typeLookup (.type "list") "keys"=pure none:=by rw[typeLookup_type,builtinLookup_eq_fast];rfl
theorem uS{w:World}{A:Around}{E:Value→Shared→Prop}{s:Shared}{a:Addr}{xs:List Value}{k:Nat}{Q:Option Value→Shared→Prop}
  (f:s.heap.get? a=some (dR xs k))(hA:A.handled=none)
  (h:∀h' tk,(∀b o,s.heap.get? b=some o→h'.get? b=some o)→Q none {s with heap:=h',toks:=tk}):wpAny (model P0 w) A (getAttr? (.ref a) "keys") Q E s:=by
 obtain⟨l,g,d,tk,j⟩:=s;have i:∀tk',(⟨l,g,d,tk',j⟩:Shared).TypeIs (.ref a) "list":=λm=>⟨_,f,rfl⟩;have v:=sub_AttributeError;have u:=F.slot_list_getattribute.lookup;have t:=F.slot_list_getattribute.bind (.ref a);have r:=am_list_getattr_none;unfold getAttr? getAttrBy? getAttrBy;repeat (any_goals (first|assumption|exact i _|((with_reducible show wpAny _ _ (call (Value.builtin "list.__getattribute__") _ _) _ _ _);refine call_meets F.slot_list_getattribute (i _) am_entry_list_getattribute (F.args_list_getattribute_2 _ _) (meets_getattribute_miss_list a xs.toArray k #[] "keys" _ zM (by decide+kernel) (by size_fits)) ⟨f,hA,λh' tk' e c=>?_⟩)|wp_step))
 obtain⟨p,n,q⟩:=c.there;show wpAny _ _ (getattributeRaised _ _ _ _ _ _ _) _ _ _;unfold getattributeRaised;repeat (any_goals (first|assumption|wp_step))
 all_goals (try exact h _ _ c.keeps)
theorem jr:entryFor table "dict.update.loop"=some Builtin.«dict.update.loop»:=entryFor_of_tree (by kernel_rfl)
theorem eU:plainId "dict.update.loop"=true:=by decide+kernel
inductive oM(f:PM):List Value→List (Int×Value)→Prop
 |nil:oM f [] []
 |cons {a:Addr} {t:Tok} {n:Nat} {i:Int} {v:Value} {vs:List Value} {ps:List (Int×Value)}:f a=some (jB [.int i t,v] n)→oM f vs ps→oM f (.ref a::vs) ((i,v)::ps)
theorem oM.len(h:oM f vs ps):vs.length=ps.length:=by
 induction h with
 |nil=>rfl
 |cons _ _ a=>exact congrArg (λx=>x+1) a
theorem oM.at(P:oM f vs ps):∀{i:Nat} {u:Value},vs[i]? =some u→∃a t n k v,u= .ref a∧ps[i]? =some (k,v)∧f a=some (jB [.int k t,v] n):=by
 induction P with
 |nil=>intro i u h;exact no h
 |cons e _ b=>
  intro i u h;cases i with
  |zero=>exact one h (Hg _ _ _ _ _ ⟨rfl,rfl,e⟩)
  |succ i=>exact b h
section
variable{w:World}{A:Around}{E:Value→Shared→Prop}{R:Result→Shared→Prop}{f:PM}
theorem zu{D:Addr}{h0:Heap}{s0:Shared}(hh:A.handled=none)(P:oM f vs kvs)(hl:l≠I)(p:D≠I)(T:D≠l)(fD:f D=none)(fI:f I=none)(hn:vs.length≤4096):
  ∀(k i:Nat) (h:Heap) (tk:Nat) (t:Tok),vs.length-i=k→i≤vs.length→f.on h→h.IsListIter I l i∧h.IsList l vs.toArray→h.DictOf (intKind P0 w) D (merged [] (kvs.take i))→
   (∀b o,b≠D→b≠I→h0.get? b=some o→h.get? b=some o)→
   (∀h' tk',(∀b o,b≠D→b≠I→h0.get? b=some o→h'.get? b=some o)→h'.DictOf (intKind P0 w) D (merged [] kvs)→R (.ok (.ret .none)) {s0 with heap:=h',toks:=tk'})→
   codeAny (model P0 w) A (.builtin "dict.update.loop" ⟨[.ref D,.ref I,.int i t,.none],[]⟩) R {s0 with heap:=h,toks:=tk}:=by
 intro k;have W:Walks P0 w A.in1 I [I,l] [I] vs.toArray.size _ _:=Walks.list (by simpa using hh) I l hl vs.toArray;induction k with
 |zero=>
  intro i h tk t J Y F st L O q;have Q:i=vs.length:=by exact AU J Y
  subst Q;refine codeAny_builtin jr ?_;refine rl (Around.under_plainId eU _) ?_;refine wpAny_bind (W.done _ _ _ (by simpa using st) λh' tk' y=>?_);refine wpAny_bind (wpAny_pure (wpAny_pure ?_));rw[List.take_of_length_le (by exact rl P.len (Nat.le_refl _))]at L;exact q h' tk' (λb o M H e=>y b o (by simpa using H) (O b o M H e)) (jE L λo U V e r=>⟨o,U,V,y D o (by simpa using p) e,r⟩)
 |succ k ih=>
  intro i h tk t J Y F st L O q;have G:i<vs.length:=by exact A0 J
  refine codeAny_builtin jr ?_;refine rl (Around.under_plainId eU _) ?_;refine wpAny_bind (W.item i _ _ _ (by simpa using G) st λv K B Z C y=>?_);refine MR (P.at (by simpa using Z)) λa u n j x N ek ea=>?_;clear st Z;subst N;have F1:f.on K:=λb o e=>y b o (by intro z;have z':b=I:=(by simpa using z);rw[z',fI]at e;exact no e) (F b o e);have g:=F1 _ _ ea;have X:K.DictOf (intKind P0 w) D (merged [] (kvs.take i)):=by exact jE L λo U V e r=>(h9 o U V ⟨y D o (by simpa using p) e,r⟩)
  dsimp only;refine wpAny_bind (wpAny_holding (wpAny_bind (wpAny_tryCatch ?_)));unfold Builtin.Dict.pairItems;refine wpAny_bind (wpAny_typeOf ⟨_,g,rfl⟩ ?_);refine rl (if_pos (by rfl)) ?_;refine wpAny_bind (wpAny_seqItems g rfl (wpAny_pure ?_));refine wpAny_holding ?_;unfold dictSet;refine wpAny_holding (wpAny_bind ((intKind P0 w).pyHash (intKind_is P0 w j u) ?_));refine wpAny_dictSetHashed_pairs (s:={s0 with heap:=K,toks:=B+1}) (intKind_is P0 w j u) X (λh2 d2 S=>?_) ?_
  ·refine wpAny_pure ⟨plainId_quiet eU _,?_⟩;have m:∀b,b≠D→∀o,K.get? b=some o→h2.get? b=some o:=λb hb o e=>(S.2 b hb).trans e;have e2:merged [] (kvs.take (i+1))=stored (merged [] (kvs.take i)) j x:=merged_take_succ [] kvs i (j,x) ek;refine ih (i+1) h2 (B+1) 0 (Bq J) G (λb o e=>m b (λz=>by rw[z,fD]at e;exact no e) o (F1 b o e)) ⟨C.1.at λo e=>m I (Ne.symm p) o e,C.2.at λo e=>m l (Ne.symm T) o e⟩ (rl e2 d2)
    (λb o M H e=>m b M o (y b o (by simpa using H) (O b o M H e))) q
  ·have:=merged_length_le ([]:List (Int×Value)) (kvs.take i);have l2:(kvs.take i).length≤kvs.length:=by exact rl List.length_take Ig
   rw[←P.len]at l2;refine rl sizeLine_eq ?_;have:([]:List (Int×Value)).length=0:=rfl
   lia
end
section
variable{w:World}{h₀:Heap}{A:Around}{E:Value→Shared→Prop}{f:PM}{s:Shared}{Q:Value→Shared→Prop}
theorem nS(x:A.handled=none)(F:f.on s.heap)(P:oM f vs kvs)(g:s.heap.get? l=some (dR vs nn))(C:vs.length≤4096)
  (q:∀h' tk,(∀b o,s.heap.get? b=some o→h'.get? b=some o)→h'.DictOf (intKind P0 w) s.heap.objs.size (merged [] kvs)→Q (.ref s.heap.objs.size) {s with heap:=h',toks:=tk}):
  wpAny (model P0 w) A (call (.type "dict") [.ref l]) Q E s:=by
 refine callType_codes (Q₁:=λj h=>j= .ref s.heap.objs.size∧h={s with heap:=s.heap.push {cls:=.type "dict",data:=.dict #[]}}) PySem.F.kt_called_dict (PySem.F.kt_typeCall_dict_1 _) PySem.F.entry_dict_init (kt_code_dict_new _ ⟨rfl,rfl⟩) ?_;intro j h t;obtain⟨rfl,rfl⟩:=t;have c:(s.heap.push {cls:=.type "dict",data:=.dict #[]}).DictOf (intKind P0 w) s.heap.objs.size []:=Heap.DictOf.new s.heap;have m:∀b o,s.heap.get? b=some o→(s.heap.push {cls:=.type "dict",data:=.dict #[]}).get? b=some o:=λb o e=>Heap.get?_push_of_some _ e;refine⟨c.typeIs,PySem.F.args_dict_init_2 _ _,?_⟩;unfold Builtin.«dict.__init__»;refine wpAny_bind ?_;unfold Builtin.Dict.selfAndRest;refine wpAny_bind (wpAny_notOrdered_dict c.typeIs ?_);refine wpAny_pure ?_;show wpAny _ _ (Builtin.Dict.updateFrom "dict.__init__" s.heap.objs.size (.ref l) [] .none) _ _ _;unfold Builtin.Dict.updateFrom;refine wpAny_bind (wpAny_typeOf ⟨_,m _ _ g,rfl⟩ ?_);refine rl (if_pos rfl) ?_;refine wpAny_bind (uS (m _ _ g) (by simpa using x) λv i k=>?_);have y:=k _ _ (m _ _ g);refine rl (if_pos rfl) ?_;refine wpAny_bind (wpAny_rule ?_);refine wpAny_bind (wpAny_pyIter_list (s:={s with heap:=v,toks:=i}) ⟨_,y,rfl,nn,rfl⟩ ?_);have D:(s.heap.push {cls:=.type "dict",data:=.dict #[]}).get? s.heap.objs.size=some (dm [] 0):=Heap.get?_push_size _ rfl;have d:=Heap.lt_size (k _ _ D);have n:=Heap.lt_size g;refine wpAny_pure ⟨plainId_quiet eU _,?_⟩;have p:∀b o,v.get? b=some o→(v.push {cls:=.type "list_iterator",data:=.fields #[.ref l,.int 0 0]}).get? b=some o:=λb o e=>Heap.get?_push_of_some _ e;have G:=PM.dS F (aq (Nat.le_of_lt d));have H:=PM.dS F (aq (Nat.le_refl _));refine zu (s0:=s) (by simpa using x) P (Nat.ne_of_lt (Nat.lt_trans n d)) (Nat.ne_of_lt d) (Nat.ne_of_gt n) H G C (vs.length-0) 0 _ i 0 rfl (Nat.zero_le _) (λb o e=>p _ _ (k _ _ (m _ _ (F b o e)))) ⟨⟨_,Heap.get?_push_size _ rfl,rfl,rfl⟩,⟨_,p _ _ y,rfl,nn,rfl⟩⟩ ?_ (λb o z z e=>p _ _ (k _ _ (m _ _ e))) ?_
 ·exact jE c λo I J e r=>(h9 o I J ⟨p _ _ (k _ _ e),r⟩)
 ·refineλh' u B K=>⟨rfl,q h' u (λb o e=>B b o ?_ ?_ e) K⟩
  ·exact Nat.ne_of_lt (Heap.lt_size e)
  ·exact Nat.ne_of_lt (Nat.lt_trans (Heap.lt_size e) d)
theorem Mc:∀{ps:List (Int×D)} {vs:List Value},l.mapM j7=some ps→bQ f vs l→∃kvs,oM f vs kvs∧kvs.map (λx=>x.1)=ps.map (λx=>x.1)∧bQ f (kvs.map (λx=>x.2)) (ps.map (λx=>x.2)):=by
 induction l with
 |nil=>intro ps vs e o;cases o;exact one e ⟨[],.nil,rfl,.nil⟩
 |cons d l g=>
  intro ps vs e o;cases o with
  |cons a r=>
   refine jU (P:=λps=>∃kvs,oM f _ kvs∧kvs.map (λx=>x.1)=ps.map (λx=>x.1)∧bQ f (kvs.map (λx=>x.2)) (ps.map (λx=>x.2))) e λp k q c=>bG (g c r) λkvs j i h=>?_;have v:=oU q▸a;clear g e r c a q;cases v with
   |tup m b=>
    cases b with
    |cons u b=>
     cases b with
     |cons n b=>cases b;obtain⟨t,rfl⟩:=bP.jy u;exact⟨(_,_)::kvs,.cons m j,by simp[i],.cons n h⟩
theorem nM:∀{kvs:List (Int×Value)} {ps:List (Int×D)} {acc:List (Int×Value)} {l:List (Int×D)},kvs.map (λx=>x.1)=ps.map (λx=>x.1)→bQ f (kvs.map (λx=>x.2)) (ps.map (λx=>x.2))→(l.map (λx=>x.1)).Nodup→lQ f acc l→
  lQ f (merged acc kvs) (ps.foldl (λm p=>fm m p.1 p.2) l)∧((ps.foldl (λm p=>fm m p.1 p.2) l).map (λx=>x.1)).Nodup
 |[],[],acc,l,_,_,nd,r=>by simpa[merged]using⟨r,nd⟩
 |(i,v)::kvs,(j,d)::ps,acc,l,e,.cons a b,nd,r=>by simp only[List.map_cons,List.cons.injEq]at e;obtain⟨rfl,c⟩:=e;exact nM (kvs:=kvs) (ps:=ps) c b (nc nd) (lQ.stored a nd r)
theorem jH:fb w h₀ .dict (cC .dict):=by refineλds z e n env K ρ σ A f as vs s Q E R H V S q=>gA e λx j b=>jM b λl i b=>az b λps C b=>aS b λy D=>ay (i▸j▸S).one λv h o=>?_;clear S j i e;subst h;refine fG (o.lst H.on) λa vs m d g r=>?_;clear o;subst d;refine bG (Mc C r) λkvs P b F=>nS R.hd H.on P g (by refine rl r.length ?_;exact Jj (iP y)) λh' tk k G=>?_;refine a9 (nM b F (by trivial) .nil) λu t=>fP (ni G u) λL c B J p=>?_;have I:=cH.newObj H V (cH.keeps H V k) (aq (Nat.le_refl _)) B;exact q _ h' tk _ I (one D (.dct (PM.bA ..) t (p.mono (PM.cK (PM.dS H.on (aq (Nat.le_refl _)))))))
end
section
variable{w:World}{h₀ h h':Heap}{f f':PM}{as:List (Addr×Addr)}{σ σ':ak}{A:Around}{E:Value→Shared→Prop}{s:Shared}{n:Nat}{env:Env}{op:Bool}{ρ:aB}{M:Model}
theorem vz{V:V}:∀{ρ:aB},x∉ρ.map (λx=>x.1)→Upd ρ x V (ρ++[(x,V)])
 |[],_,y,W,e=>by
  rw[List.nil_append,List.lookup_cons]at e;cases h:y==x with
  |true=>rw[h]at e;exact one e (.inl ⟨by simpa using h,rfl⟩)
  |false=>rw[h]at e;exact no e
 |(z,U)::ρ,hn,y,W,e=>by
  rw[List.map_cons,List.mem_cons,not_or]at hn;rw[List.cons_append,List.lookup_cons]at e;refine rl List.lookup_cons ?_;cases h:y==z with
  |true=>rw[h]at e;exact one e (.inr ⟨λq=>hn.1 (by refine rr q ?_;simpa using h),rfl⟩)
  |false=>replace e:=h▸e;exact vz hn.2 y W e
theorem tZ(i:Str×Value→PUnit→PySem.Sem (ForInStep PUnit))(B:∀n v u,i (n,v) u=(do storeName env n v;pure (.yield ⟨⟩)))(ps:List (Nat×V)):∀(vs:List Value) (ρ:aB) (h:Heap) (tk:Nat) (Q:PUnit→Shared→Prop),
  (∀p∈ps,aG env op p.1)→cV f as vs (ps.map (λx=>x.2))→((ρ++ps).map (λx=>x.1)).Nodup→Hp h₀ f as h σ→Vr op f as env h ρ→
  (∀h' tk,(∀b,b∉Env.adr env→h'.get? b=h.get? b)→Hp h₀ f as h' σ→Vr op f as env h' (ρ++ps)→Q ⟨⟩ {s with heap:=h',toks:=tk})→
  wpAny M A (forIn ((ps.map λp=>nm p.1).zip vs) PUnit.unit i) Q E {s with heap:=h,toks:=tk}:=by
 induction ps with
 |nil=>intro vs ρ h tk Q _ _ _ H V q;skip;refine rl List.forIn_nil ?_;exact wpAny_pure (q h tk (λk k=>rfl) H (by rw[List.append_nil];exact V))
 |cons p ps r=>
  intro vs ρ h tk Q hs d g H V q;obtain⟨x,W⟩:=p;cases d with
  |@cons v _ vs _ o d=>
  show wpAny M A (forIn ((nm x,v)::(ps.map λp=>nm p.1).zip vs) PUnit.unit i) Q E _;rw[List.forIn_cons,B];have e:ρ++(x,W)::ps=(ρ++[(x,W)])++ps:=by simp
  have t:x∉ρ.map (λx=>x.1):=by rw[List.map_append,List.nodup_append]at g;intro z;exact g.2.2 x z x (by simp) rfl
  refine wpAny_bind (wpAny_bind (rP (s:={s with heap:=h,toks:=tk}) H V (hs _ (.head _)) o (vz t) λD c m J G=>wpAny_pure ?_));refine r vs (ρ++[(x,W)]) D c Q (λp y=>hs p (.tail _ y)) d (by refine rr e ?_;exact g) J G λC a l I F=>?_;exact q C a (λb j=>(l b j).trans (m b j)) I (by refine rl e ?_;exact F)
theorem iU{code:Value}(K:scope.kind= .function)(H:Hp h₀ f as s.heap σ)(F:cV f as vs (ps.map (λx=>x.2)))(G:(ps.map (λx=>x.1)).Nodup)
  (hs:∀p∈ps,aG (newEnv scope s.heap.objs.size mainGlobals (cellsFrom (s.heap.objs.size+1) scope.names []) qual func code none builtinsNs) true p.1)
  (q:∀h' tk,Hp h₀ f as h' σ→Vr true f as (newEnv scope s.heap.objs.size mainGlobals (cellsFrom (s.heap.objs.size+1) scope.names []) qual func code none builtinsNs) h' ps→(∀b o,s.heap.get? b=some o→h'.get? b=some o)→
   (∀a∈Env.adr (newEnv scope s.heap.objs.size mainGlobals (cellsFrom (s.heap.objs.size+1) scope.names []) qual func code none builtinsNs),s.heap.get? a=none)→Q (newEnv scope s.heap.objs.size mainGlobals (cellsFrom (s.heap.objs.size+1) scope.names []) qual func code none builtinsNs) {s with heap:=h',toks:=tk}):
  wpAny M A (newFunctionEnv scope mainGlobals [] ((ps.map λp=>nm p.1).zip vs) qual func code none builtinsNs) Q E s:=by
 dsimp only[newFunctionEnv,Option.isSome_none];refine wpAny_bind (wpAny_alloc ?_);refine wpAny_bind (wpAny_layCells _ (λC t cells=>by cases hkc:t==NameKind.cell<;>rfl) _ _ _ _ ?_);have r:=cellsFrom_ok scope.names (s.heap.push {cls:=.type "frame",data:=.dict #[]}) (s.heap.objs.size+1) [] ⟨λl l J=>(nomatch J),List.Pairwise.nil⟩ (by rw[Heap.size_push];exact Nat.le_refl _);rw[Heap.size_push]at r;refine rl (Heap.size_push ..) ?_;generalize L:cellsFrom (s.heap.objs.size+1) scope.names []=cs at r hs q⊢;generalize g:newEnv scope s.heap.objs.size mainGlobals cs qual func code none builtinsNs=env at hs q;have P:env.scope=scope:=by refine rr g ?_;rfl
 have B:env.locals=s.heap.objs.size:=by refine rr g ?_;rfl
 have v:env.cells=cs:=by refine rr g ?_;rfl
 have O:env.globals=mainGlobals:=by refine rr g ?_;rfl
 have N:env.builtins=builtinsNs:=by refine rr g ?_;rfl
 have D:∀b o,s.heap.get? b=some o→(pushCells (s.heap.push {cls:=.type "frame",data:=.dict #[]}) scope.names).get? b=some o:=λb o e=>pushCells_keeps _ _ b o (Heap.get?_push_of_some _ e);have i:∀a∈Env.adr env,s.heap.get? a=none:=λa k=>by
  unfold Env.adr at k;replace k:=B▸k;replace k:=v▸k;refine Or.elim (List.mem_cons.mp k) (λl=>?_) λk=>?_
  ·subst l;exact aq (Nat.le_refl _)
  ·refine ay (List.mem_map.mp k) λp j y=>?_;subst y;exact aq (Nat.le_trans (Nat.le_succ _) (r.empty p.1 p.2 j).2)
 have S:Vr true f as env (pushCells (s.heap.push {cls:=.type "frame",data:=.dict #[]}) scope.names) []:=by
  refine⟨⟨by refine rl P ?_;exact K,O,N⟩,(λx W e=>nomatch e),⟨λl=>none,?_⟩,λp j=>?_,λp j z=>?_,λa k z=>?_,?_,λl p j=>?_,?_,λp j=>?_⟩
  ·exact rl B ((Heap.Ns.new s.heap (.type "frame")).keeps (pushCells_keeps _ _))
  ·rw[v]at j;exact⟨_,(r.empty p.1 p.2 j).1⟩
  ·obtain⟨o,u⟩:=H.has p j;rw[i _ z]at u;exact no u
  ·obtain⟨o,u⟩:=H.tabAt z;rw[i _ k]at u;exact no u
  ·exact PM.dS H.on (i _ (List.mem_cons_self ..))
  ·exact PM.dS H.on (i _ (List.mem_cons_of_mem _ (List.mem_map.mpr ⟨p,j,rfl⟩)))
  ·rw[v,List.Nodup,List.pairwise_map];exact r.apart
  ·rw[v]at j;exact rl B (Nat.ne_of_gt (Nat.lt_of_lt_of_le (Nat.lt_succ_self _) (r.empty p.1 p.2 j).2))
 refine rl (show({scope:=scope,locals:=s.heap.objs.size,globals:=mainGlobals,cells:=cs,qual:=qual,func:=func,code:=code,frame:=some s.heap.objs.size,builtins:=builtinsNs}:Env)=env from g) ?_;refine wpAny_bind (tZ (ρ:=[]) (s:=s) _ (λl l l=>rfl) ps vs _ s.toks _ hs F G (H.keeps D) S λh' tk I T R=>wpAny_pure (q h' tk T R (λb o e=>?_) i));refine rl (I b (λz=>by rw[i _ z]at e;exact no e)) ?_;exact D b o e
end
section
variable{h₀ h h':Heap}{as:List (Addr×Addr)}
theorem C7:∀{es:List DictEntry} {f:PM} {σ a:ak} {b:List (Nat×V)},Hp h₀ f as h σ→cA f as es fs→C6 σ fs=some (b,a)→
  ∃f',Hp h₀ f' as h a∧Step f h (as.map (λx=>x.2)) [] f' h∧cA f' as es b:=by
 induction fs with
 |nil=>intro es f σ a b H F e;cases F;exact two e ⟨f,H,.refl ..,.nil⟩
 |cons p fs l=>
  intro es f σ a b H F e;cases F with
  |cons k o r=>exact au e λd σ1 s e=>au e λm i q e=>two e (by
    exact bG (H.toD s o) λy v g t=>bG (l v (r.mono g.le) q) λn u c j=>⟨n,u,g.trans c,.cons k (bP.mono c.le t) j⟩)
theorem Hp.Mw(H:Hp h₀ f as h σ)(e:as[k]? =some p)(i:σ[k]? =some c)(g:c.live=true)(j:fN f as h p c')(b:c'.live=true):Hp h₀ f as h (σ.set k c'):=
 H.write e i g (λd d=>rfl) j b
theorem zZ:∀{f:PM} {σ d:ak},Hp h₀ f as h σ→tn σ q=some d→∃f',Hp h₀ f' as h d∧Step f h (as.map (λx=>x.2)) [] f' h:=by
 induction q with
 |nil=>intro f σ d H e;exact one e ⟨f,H,.refl ..⟩
 |cons i q k=>
  intro f σ d H e;refine az e λx s e=>?_;cases x with
  |inst c fs=>
   refine au e λy σ1 C e=>au e λc' z j e=>?_;have j:=ki j;have w:i<as.length:=by exact rl H.len ((List.getElem?_eq_some_iff.mp s).1)
   have p:=List.getElem?_eq_getElem w;refine bR (H.cells _ _ _ p s) λa b o=>cJ o λB n g r=>bG (C7 H r C) λI u t v=>bR (u.cells _ _ _ p j) λJ D o=>cJ o λm m m m=>?_;have G:=u.Mw p j rfl (c':=.inst c y) ⟨t.le _ _ a,D,B,n,g,v⟩ rfl;exact ay (k G e) λA F E=>⟨A,F,t.trans E⟩
  |lst l=>exact k H e
  |dct l=>exact k H e
  |eE l=>exact k H e
end
section
variable{h₀ h h1 h':Heap}{as as0 as':List (Addr×Addr)}{f f' f2:PM}{σ σ':ak}{env:Env}{op:Bool}{ρ:aB}
theorem wQ:∀{n:Nat} {as0 as:List (Addr×Addr)} {σ:ak} {m:Nat},(∀i<n,as0[i]? =as[m+i]?)→(∀i<n,cs[i]? =σ[m+i]?)→as0.length=n→cs.length=n→m+n≤as.length→as.length=σ.length→(∀c∈cs,c.whole=true)→
  ∀{ks:List Nat} {e:List (Addr×Addr)} {ds:List Cell},(∀k∈ks,m+n≤k)→iA as σ ks e ds→iA as σ ((List.range n).map (λx=>m+x)++ks) (as0++e) (cs++ds):=by
 intro n;induction n generalizing cs with
 |zero=>intro as0 as σ m _ _ d b _ _ _ ks e ds _ L;rw[List.length_eq_zero_iff]at d b;clear a a_1 a_2 a_3 a_4 a_5;subst d b;simpa using L
 |succ n w=>
  intro as0 as σ m t s d b v f o ks e ds r L;cases as0 with
  |nil=>simp at d
  |cons p as0=>
   cases cs with
   |nil=>simp at b
   |cons c cs=>
    have h1:=t 0 (Nat.succ_pos _);have A:=s 0 (Nat.succ_pos _);refine rl List.range_succ_eq_map (rl List.map_cons ?_);refine rl List.map_map ?_;refine .cons h1.symm A.symm (o c (.head _)) (λq=>?_) ?_
    ·refine Or.elim (List.mem_append.mp q) (λq=>?_) λq=>?_
     ·exact ay (List.mem_map.mp q) λj u y=>Nat.succ_ne_zero j (Nat.add_left_cancel y)
     ·exact Nat.lt_irrefl m (Nat.lt_of_lt_of_le (Nat.lt_add_of_pos_right (Nat.succ_pos n)) (r _ q))
    ·have:=w (λi l=>by have:=t (i+1) (Nat.succ_lt_succ l);simp only[List.getElem?_cons_succ]at this;refine rl this ?_;congr 1;exact r4)
      (λi l=>by have:=s (i+1) (Nat.succ_lt_succ l);simp only[List.getElem?_cons_succ]at this;refine rl this ?_;congr 1;exact r4) (by simpa using d) (by simpa using b) (mX v) f (λc z=>o c (.tail _ z)) (λk g=>mX (r k g)) L
     have B:(List.range n).map (λx=>(m+1)+x)=(List.range n).map ((λx=>m+x)∘Nat.succ):=by exact List.map_congr_left λi u=>Nat.add_right_comm m 1 i
     replace this:=B▸this;exact this
theorem q4(l:List α)(n i:Nat)(a:i<n):(l.take n)[i]? =l[i]? :=by rw[List.getElem?_take,if_pos a]
theorem Dm{P:Prop}(e:NY b c=some r)(d:∀x,c= .eE x→.d x=r→P)(a:b=true→c.whole=true→.c c=r→P):P:=by
 cases c with
 |eE x=>exact d x rfl (Option.some.inj e)
 |_=>exact aS e λh e=>a (Bool.and_eq_true_iff.mp h).1 (Bool.and_eq_true_iff.mp h).2 (Option.some.inj e)
theorem yi(E:∀b o,h.get? b=some o→h1.get? b=some o)(l:∀a∈Env.adr env,h.get? a=none)(_H0:Hp h₀ f as0 h σ)(R:dI h₀ op env f as0 h1 ρ σ' f' as' h')
  (e:uL as0.length v σ'=some (r,cs))(o:jG f' as' val v):∃f2,Step f h (as0.map (λx=>x.2)) [] f2 h'∧cs.length=as0.length∧(∀c∈cs,c.whole=true)∧Back h₀ f2 as0 h h' val cs r:=by
 refine az e λσ1 e1 B=>az B λr' H A=>az A λSK Z B=>?_;clear e A
 ·
  ·
   refine two B ?_;refine ay (zZ R.hp e1) λf2 D C=>ay R.grown λbs m fr=>?_;clear _H0 e1 B;subst m;have j:∀a,h1.get? a=none→h.get? a=none:=λa q=>by
    cases z:h.get? a with
    |none=>rfl
    |some T=>rw[E _ _ z]at q;exact on q
   have st:Step f h (as0.map (λx=>x.2)) [] f2 h':=by
    refine⟨R.step.le.trans C.le,λb x P hb F=>?_,λa x Q=>?_⟩
    ·refine R.step.keep b x (E b x P) (λq=>?_) F;refine Or.elim (List.mem_append.mp q) (λq=>?_) λq=>?_
     ·exact hb q
     ·rw[l b q]at P;exact no P
    ·have M:∀a,(a∈(as0++bs).map (λx=>x.2)→a∈as0.map (λx=>x.2)∨h.get? a=none):=λa q=>by
      replace q:=List.map_append▸q;refine Or.elim (List.mem_append.mp q) (λq=>?_) λq=>?_
      ·exact .inl q
      ·refine ay (List.mem_map.mp q) λp hp I=>?_;subst I;exact .inr (j _ (fr p hp))
     have K:∀a x,f' a=some x→f a=some x∨h.get? a=none∨a∈as0.map (λx=>x.2)∨a∈[]∨a∈cT:=λa x Q=>by
      refine Or.elim (R.step.new a x Q) (λq=>?_) λg=>Or.elim g (λq=>?_) λg=>Or.elim g (λq=>?_) λg=>Or.elim g (λq=>?_) λq=>?_
      ·exact .inl q
      ·exact .inr (.inl (j _ q))
      ·refine Or.elim (List.mem_append.mp q) (λq=>?_) λq=>?_
       ·exact .inr (.inr (.inl q))
       ·exact .inr (.inl (l a q))
      ·exact .inr (.inl (l a (List.mem_cons_of_mem _ q)))
      ·exact .inr (.inr (.inr (.inr q)))
     refine Or.elim (C.new a x Q) (λq=>?_) λg=>Or.elim g (λq=>?_) λg=>Or.elim g (λq=>?_) λg=>Or.elim g (λq=>?_) λq=>?_
     ·exact K a x q
     ·cases z:h.get? a with
      |none=>exact .inr (.inl rfl)
      |some T=>
       by_cases W:a∈as0.map (λx=>x.2)
       ·exact .inr (.inr (.inl W))
       ·by_cases F:a∈cT
        ·exact .inr (.inr (.inr (.inr F)))
        ·have:=R.step.keep a T (E _ _ z) (λw=>by
          refine Or.elim (List.mem_append.mp w) (λw=>?_) λw=>?_
          ·exact W w
          ·rw[l a w]at z;exact no z) F
         rw[q]at this;exact no this
     ·refine Or.elim (M a q) (λq=>?_) λq=>?_
      ·exact .inr (.inr (.inl q))
      ·exact .inr (.inl q)
     ·cases q
     ·exact .inr (.inr (.inr (.inr q)))
   ·
    refine aS Z λU Y=>one Y ?_;have t:∀c∈σ1.take as0.length,c.whole=true:=λc hc=>List.all_eq_true.mp U c hc;have n:as0.length≤σ1.length:=by have:=D.len;rw[List.length_append]at this;lia
    have J:(σ1.take as0.length).length=as0.length:=by exact rl List.length_take (JY n)
    have LR:=λ{ks ys ds} (s:∀k∈ks,as0.length≤k) (L:iA (as0++bs) σ1 ks ys ds)=>wQ
     (λi N=>by rw[Nat.zero_add,List.getElem?_append_left N]) (λi N=>by rw[Nat.zero_add,q4 _ _ _ N]) rfl J (by refine rl List.length_append ?_;lia) D.len t (λk u=>by have:=s k u;lia) L
    have y:Hp h₀ f2 as0 h' (σ1.take as0.length):=by have:=D.lend (LR (λk s=>by cases s) .nil);simpa using this
    refine⟨f2,st,J,t,?_⟩;clear E l B Z R st U Y t n J;cases v with
    |d x=>exact one H ⟨y,bP.mono C.le o⟩
    |loc k=>
     refine ay o λp G m=>az H λc X S=>Dm S (λx ex O=>?_) λs V O=>?_
     ·clear C H o S;subst O m ex;exact⟨y,D.cells _ _ _ G X⟩
     ·clear C y H o S;subst O m;have s:=of_decide_eq_true s;refine⟨p,rfl,?_,V,?_⟩
      ·rw[List.getElem?_append_right s]at G;exact j _ (fr p (List.mem_of_getElem? G))
      ·exact D.lend (LR (λk' u=>rl (List.mem_singleton.mp u) s) (.cons G X V (λz=>nomatch z) .nil))
end
noncomputable abbrev e7(scope:Scope)(L:Addr)(qual:Str)(func:Option Addr)(code:Value):Env:=newEnv scope L mainGlobals (cellsFrom (L+1) scope.names []) qual func code none builtinsNs
structure HP(K:Frag)(h₀:Heap)(a:Addr)(scope:Scope)(code:Value)(qual:Str)(params:List Nat)(body:List Stmt):Prop where
 at_:∃oc od osl name C8 dV kV doc pm an ct,K.lookup a=some ⟨oc,od,.func (fnOf name qual C8 body scope dV kV doc pm an code ct),osl⟩∧
  ∀vs:List Value,vs.length=params.length→bindArgs (fnOf name qual C8 body scope dV kV doc pm an code ct) ⟨vs,[]⟩=pure ((params.map nm).zip vs)
 Mv:h₀.CodeRec code qual
 kind:scope.kind= .function
 co:scope.isCoroutine=false
 gen:scope.isGenerator=false
 nodup:params.Nodup
 store:∀L func,∀x∈params,aG (e7 scope L (qual++".<locals>.") func code) true x
section
variable{w:World}{h₀ h h':Heap}{f f':PM}{as as0:List (Addr×Addr)}{σ σ':ak}{fY cs:List Cell}{A:Around}{s:Shared}{n:Nat}{env:Env}{op:Bool}{C:Mine.Sem}{ρ:aB}
 {K:Frag}{mg mb:Str→Option Value}{sg:List D}
theorem B0:∀{rs:List AR} {ρ:aB} {σ:ak} {as:List (Addr×Addr)} {cs:List Cell} {vs:List Value} {k:Nat},enter xs rs k=some (ρ,σ)→Hand f as cs vs rs→
  ρ.map (λx=>x.1)=xs∧σ=cs∧vs.length=xs.length∧∀pre:List (Addr×Addr),pre.length=k→cV f (pre++as) vs (ρ.map (λx=>x.2)):=by
 induction xs with
 |nil=>
  intro rs ρ σ as cs vs k e h;cases h with
  |nil=>exact two e ⟨rfl,rfl,rfl,λt t=>.nil⟩
  |d _ _=>exact no e
  |c _=>exact no e
 |cons x xs q=>
  intro rs ρ σ as cs vs k e h;cases h with
  |nil=>exact no e
  |d d r=>exact au e λρ' σ' o e=>two e (by
    exact lR (q o r) λm l j i=>⟨congrArg (λy=>x::y) m,l,congrArg (λx=>x+1) j,λpre g=>.cons d (i pre g)⟩)
  |@c as _ p a _ _ r=>exact au e λρ' σ' o e=>two e (by
    refine lR (q o r) λm l j i=>⟨congrArg (λy=>x::y) m,congrArg (λx=>a::x) l,congrArg (λx=>x+1) j,λpre g=>.cons ⟨p,?_,rfl⟩ ?_⟩
    ·simp only[List.getElem?_append_right (Be g),g,Nat.sub_self];rfl
    ·have:=i (pre++[p]) (by simp[g]);rw[List.append_assoc]at this;exact this)
theorem un(h:a+40*(b+1)+200<c)(d:k≤40):a+k+40*b+200<c:=Nat.lt_of_le_of_lt (Nat.add_le_add_right (Nat.add_right_comm a k (40*b)▸Nat.add_le_add_left d (a+40*b)) 200) h
theorem bO.deeper(R:bO A (n+1))(env:Env):bO (A.deeper env) n:=⟨R.hd,Ew R.depth,un R.units (by decide)⟩
noncomputable def HC(ev:St→Option (Fl×St))(ps:List Nat)(as:List AR):Option (AR×List Cell):=b2 (enter ps as 0) λρ MH=>b2 (ev (ρ,MH)) λf st=>b1 f.res λv=>uL MH.length v st.2
theorem x8{b:Value}(G:h8 K mg mb h₀ sg)(F:HP K h₀ a scope b qual ps body)
  (B:∀L,(∀c∈(cellsFrom (L+1) scope.names []).map (λx=>x.2),L<c)→∃op',qO w h₀ n (A.deeper (e7 scope L (qual++".<locals>.") (some a) b)) (e7 scope L (qual++".<locals>.") (some a) b) true op' (execs body (e7 scope L (qual++".<locals>.") (some a) b)) RM)
  (e:HC RM ps rs=some (r,cs))(P:∀env,bO (A.deeper env) n)(H:Hp h₀ f as0 s.heap fY)(U:Hand f as0 fY vs rs)
  (q:∀f' h' tk v,Step f s.heap (as0.map (λx=>x.2)) [] f' h'→cs.length=fY.length→(∀c∈cs,c.whole=true)→Back h₀ f' as0 s.heap h' v cs r→R (.ok (.ret v)) {s with heap:=h',toks:=tk}):
  codeAny (model P0 w) A (.call (.ref a) ⟨vs,[]⟩) R s:=by
 refine au e λρ MH e0 e1=>au e1 λfl st Z e2=>az e2 λv N e3=>?_;clear e e1 e2
 ·
  refine lR (B0 e0 U) λi p2 y d=>?_;have d:=d [] rfl;rw[List.nil_append]at d;clear U e0;cases p2;refine nR F.at_ λoc od osl T u dV kV doc Q=>jE Q λpm an ct M I=>?_;have J:=H.qX G.X;refine codeAny_call_function (by have:A.depth+1+2*n<_:=(P (e7 scope 0 qual none b)).depth;exact KD this) (J _ _ M) rfl F.co F.gen rfl (F.Mv.keeps H.all) ?_;refine rl (I vs y) ?_;refine wpAny_pure ?_;have D:(ps.map nm).zip vs=(ρ.map λp=>nm p.1).zip vs:=by refine rr i (rl List.map_map ?_);rfl
  refine rl D ?_;refine iU F.kind H d (by refine rl i ?_;exact F.nodup) (λp E=>F.store _ _ p.1 (rr i (List.mem_map.mpr ⟨p,E,rfl⟩))) λh1 t H1 V1 z l=>?_;refine⟨(G.nolimit.keeps H.all).keeps z,codeAny_func ?_⟩;have j:∀c∈(cellsFrom (s.heap.objs.size+1) scope.names []).map (λx=>x.2),s.heap.objs.size<c:=λc V=>by refine ay (List.mem_map.mp V) λp E m=>?_;clear G F i y d M I J D V;subst m;have S:=cellsFrom_ok scope.names (s.heap.push {cls:=.type "frame",data:=.dict #[]}) (s.heap.objs.size+1) [] ⟨λzz zz hm=>(nomatch hm),List.Pairwise.nil⟩ (by rw[Heap.size_push];exact Nat.le_refl _);rw[Heap.size_push]at S;exact Nat.lt_of_lt_of_le (Nat.lt_succ_self _) (S.empty p.1 p.2 E).2
  refine aT (B s.heap.objs.size j) λop' X=>?_;obtain⟨ρ',σ'⟩:=st;refine X _ _ _ _ _ Z f as0 {s with heap:=h1,toks:=t} _ _ (P _) H1 V1 λf2 O W g Y R2 o2=>?_;have k:∀val,jG f2 O val v→R (.ok (.ret val)) {s with heap:=W,toks:=g}:=λval o=>rS (yi z l H R2 (H.len.symm▸e3) o) λf3 S3 l3 w3 B3=>q f3 W g _ S3 (l3.trans H.len) w3 B3;clear G F B P H q i y d Q M I J D H1 V1 z l j X Z e3 R2;cases o2 with
  |ret o=>exact k _ (one N o)
  |next=>exact k .none (one N .none)
  |cont=>exact no N
theorem x9{b:Value}(G:h8 K mg mb h₀ sg)(F:HP K h₀ a scope b qual fd.params body)
  (B:∀L,(∀c∈(cellsFrom (L+1) scope.names []).map (λx=>x.2),L<c)→∃op',qO w h₀ n (A.deeper (e7 scope L (qual++".<locals>.") (some a) b)) (e7 scope L (qual++".<locals>.") (some a) b) true op' (execs body (e7 scope L (qual++".<locals>.") (some a) b)) (cu C fd.body))
  (e:qn C fd rs=some (r,cs))(g:∀env,bO (A.deeper env) n)(H:Hp h₀ f as0 s.heap fY)(d:Hand f as0 fY vs rs)
  (q:∀f' h' tk v,Step f s.heap (as0.map (λx=>x.2)) [] f' h'→cs.length=fY.length→(∀c∈cs,c.whole=true)→Back h₀ f' as0 s.heap h' v cs r→R (.ok (.ret v)) {s with heap:=h',toks:=tk}):
  codeAny (model P0 w) A (.call (.ref a) ⟨vs,[]⟩) R s:=x8 G F B e g H d q
end
section
variable{w:World}{h₀ h h':Heap}{f f':PM}{as as0:List (Addr×Addr)}{σ σ':ak}{fY cs:List Cell}{A:Around}{s:Shared}{n:Nat}{env:Env}{op:Bool}{C:Mine.Sem}{ρ:aB}
 {K:Frag}{mg mb:Str→Option Value}{sg:List D}
theorem bO.type(R:bO A (n+1))(a:Addr)(vs:List Value)(b:List (Str×Value))(env:Env):bO ((A.under (.builtin "type.__call__" ⟨.ref a::vs,b⟩)).deeper env) n:=by
 refine⟨R.hd,?_,?_⟩
 ·show A.depth+2+2*n<_;exact Nat.lt_of_le_of_lt (Nat.le_of_eq (Nat.add_right_comm A.depth 2 (2*n))) R.depth
 ·show A.units+4+40*n+200<_;exact un R.units (by decide)
theorem xg{a r:AR}{P:Prop}(h:a.isNone=true)(e:NU cs=some r)(k:∀x,a= .d .none→cs=[x]→r= .c x→P):P:=by
 cases a with
 |c x=>exact ft h
 |d y=>cases y with
  |none=>cases cs with
   |nil=>exact no e
   |cons x cs=>cases cs with
    |nil=>exact k x rfl rfl (Option.some.inj e).symm
    |cons _ _=>exact no e
  |_=>exact ft h
theorem CZ{c:Nat}{i:Nat}{l:Value}(G:h8 K mg mb h₀ sg)(U:yT K c i ms)(P:typeIn K (.ref (ia i))=some (.type "function"))(F:HP K h₀ (ia i) scope l qual fd.params body)
  (B:∀L,(∀c∈(cellsFrom (L+1) scope.names []).map (λx=>x.2),L<c)→∃op',cR w h₀ n (e7 scope L (qual++".<locals>.") (some (ia i)) l) true op' (execs body (e7 scope L (qual++".<locals>.") (some (ia i)) l)) (cu C fd.body))
  (e:xf C c fd rs=some r)(Rm:bO A (n+1))(H:Hp h₀ f [] s.heap [])(hd:Hand f [] [] vs rs)
  (q:∀f' h' tk v,Step f s.heap [] [] f' h'→Back h₀ f' [] s.heap h' v [] r→R (.ok (.ret v)) {s with heap:=h',toks:=tk}):
  codeAny (model P0 w) A (.call (.ref (ik c)) ⟨vs,[]⟩) R s:=by
 refine au e λr' cs e0 D=>aS D λT I=>xg T I λx N M J=>?_;clear e D I T;subst N M J
 ·
  obtain⟨j,g,d,t,os⟩:=s;have X:=H.qX G.X;refine make_core (makes_of X U.makes) (looks_findIn X U.init) (λp=>bind_fn X p P) (.inl rfl) ?_;have Y:∀b o,j.get? b=some o→(j.push emptyDict).get? b=some o:=λb o e=>Heap.get?_push_of_some _ e;have u:j.get? j.objs.size=none:=aq (Nat.le_refl _);have g1:j.get? (j.objs.size+1)=none:=aq (Nat.le_succ _);have D:((j.push emptyDict).push (instObj (ik c) j.objs.size)).get? j.objs.size=some emptyDict:=Heap.get?_push_of_some _ (Heap.get?_push_size _ rfl);have I:((j.push emptyDict).push (instObj (ik c) j.objs.size)).get? (j.objs.size+1)=some (instObj (ik c) j.objs.size):=by have:=Heap.get?_push_size (j.push emptyDict) (o:=instObj (ik c) j.objs.size) rfl;rw[Heap.size_push]at this;exact this
  have O:∀b o,j.get? b=some o→((j.push emptyDict).push (instObj (ik c) j.objs.size)).get? b=some o:=λb o e=>Heap.get?_push_of_some _ (Y b o e);refine a9 (H.new (X:=[]) (Z:=[]) O g1 I) λH1 S=>?_;have f0:(f.put (j.objs.size+1) (instObj (ik c) j.objs.size)) j.objs.size=none:=by unfold PM.put;exact rl (if_neg (Nat.ne_of_lt (Nat.lt_succ_self _))) ((H.off u).1)
  have H2:=H1.LQ (j.objs.size+1,j.objs.size) (c:=.inst c []) ⟨PM.bA ..,f0,[],0,D,.nil⟩ (H.off u).2.2 ⟨_,D⟩ λm k q d e=>by exact no e
  refine x9 G F (λL h=>let⟨o,x⟩:=B L h;⟨o,x.at _⟩) e0 (bO.type Rm _ _ _) H2 (.c (hd.mono S.le)) λf' h' tk v Q l2 V B2=>?_;obtain⟨H3,D3⟩:=B2;cases D3;refine⟨rfl,?_⟩;refine q f' h' tk (.ref (j.objs.size+1)) ⟨S.le.trans Q.le,λb o E hb P=>?_,λa o ea=>?_⟩ ⟨(j.objs.size+1,j.objs.size),rfl,u,V x (.head _),H3⟩
  ·refine Q.keep b o (O b o E) (λz=>?_) P;rw[List.mem_singleton.mp z]at E;rw[u]at E;exact no E
  ·refine Or.elim (Q.new a o ea) (λz=>?_) λm=>Or.elim m (λz=>?_) λm=>Or.elim m (λz=>?_) λm=>Or.elim m (λz=>?_) λz=>?_
   ·exact S.new a o z
   ·cases y:j.get? a with
    |none=>exact .inr (.inl rfl)
    |some W=>rw[O a W y]at z;exact on z
   ·exact rl (List.mem_singleton.mp z) (.inr (.inl u))
   ·cases z
   ·exact .inr (.inr (.inr (.inr z)))
end
structure tO(l:gq)(params:List Nat):Prop where
 bind:∀(name qual:Str) (cl:List (Str×Addr)) (pm cv ct:Value) (vs:List Value),vs.length=params.length→bindArgs (kla_fn name qual l.params l.body l.scope cl pm cv ct) ⟨vs,[]⟩=pure ((params.map nm).zip vs)
 kind:l.scope.kind= .function
 co:l.scope.isCoroutine=false
 gen:l.scope.isGenerator=false
 nodup:params.Nodup
section
variable{w:World}{h₀ h h' h1:Heap}{f f':PM}{as as0:List (Addr×Addr)}{σ σ':ak}{fY cs:List Cell}{A:Around}{s:Shared}{n:Nat}{env:Env}{op:Bool}{C:Mine.Sem}{ρ:aB}
 {K:Frag}{mg mb:Str→Option Value}{sg:List D}
theorem cV.of':∀{vs:List Value} {ds:List D},bQ f vs ds→cV f as vs (ds.map V.d)
 |_,_,.nil=>.nil
 |_,_,.cons a r=>.cons a (.of' r)
theorem DW{xs:List Nat}{ds:List V}(a:xs.length=ds.length):(xs.zip ds).map (λx=>x.1)=xs∧(xs.zip ds).map (λx=>x.2)=ds:=by
 constructor
 ·rw[←List.unzip_fst,List.unzip_zip a]
 ·rw[←List.unzip_snd,List.unzip_zip a]
theorem CH{v:V}(j:∀b o,h.get? b=some o→h1.get? b=some o)(c:∀a∈Env.adr env,h.get? a=none)(p:Hp h₀ f [] h [])(a:cH h₀ op env f [] h1 ρ σ' f' h')(e:view [] v=some x)(o:jG f' [] val v):
  ∃f2,Step f h [] [] f2 h'∧Hp h₀ f2 [] h' []∧bP f2 val x:=by
 have l:σ'=[]:=by
  have:=a.hp.len;cases σ' with
  |nil=>rfl
  |cons _ _=>simp at this
 subst l;cases v with
 |loc k=>exact no e
 |d y=>simp only[view]at e;cases e;refine rS (yi (cs:=[]) j c p (dI.of a) rfl o) λf2 m i i g=>?_;exact⟨f2,m,g.1,g.2⟩
theorem bP.zo{k:Nat}(b:bP f (.ref a) (.ie k bL)):∃name qual cl pm ct c' oc yd BU,f a=some {cls:=.type "function",data:=.func (kla_fn name qual (fh k).params (fh k).body (fh k).scope cl pm (.ref c') ct)}∧
  f c'=some oc∧oc.data= .fields yd∧yd[1]? =some (.str qual BU)∧jp f cl bL:=by
 generalize c:Value.ref a=v at b;cases b with
 |ie j i g e d=>cases c;exact(Ao _ _ _ _ _ _ _ _ ⟨_,j,i,g,e,d⟩)
theorem Mg{b:eA}{x:D}(G:h8 K mg mb h₀ sg)(L:tO (fh k) b.params)(hs:∀L qual func code,∀x∈b.params,aG (e7 (fh k).scope L qual func code) true x)
  (B:∀L qual func code,∃op',aY w h₀ n (e7 (fh k).scope L qual func code) true op' (fh k).body (aH C b.body))(e:qo C b [] ds=some x)(E:bO A (n+1))(H:Hp h₀ f [] s.heap [])(F:bP f (.ref a) (.ie k []))(z:bQ f vs ds)
  (q:∀f' h' tk v,Step f s.heap [] [] f' h'→Hp h₀ f' [] h' []→bP f' v x→R (.ok (.ret v)) {s with heap:=h',toks:=tk}):codeAny (model P0 w) A (.call (.ref a) ⟨vs,[]⟩) R s:=by
 refine aS e λc S=>au S λv σ' y Q=>?_
 ·
  have c:=of_decide_eq_true c
  ·
   refine nR F.zo λt qual cl pm ct c' J l r=>D5 r λm Z Y W U T=>?_;clear F r;cases T;refine kla_callFunE (vP E.depth) (H.on _ _ Z) rfl L.co L.gen rfl (jC c' J l m ⟨rfl,H.on _ _ Y,W,U⟩) ?_;refine rl (L.bind _ _ _ _ _ _ vs (by refine rl z.length ?_;exact c)) ?_;refine wpAny_pure ?_;refine a9 (DW (xs:=b.params) (ds:=ds.map V.d) (by rw[List.length_map];exact c.symm)) λd I=>?_;have M:(b.params.map nm).zip vs=((b.params.zip (ds.map V.d)).map λp=>nm p.1).zip vs:=by
    have:((b.params.zip (ds.map V.d)).map λp=>nm p.1)=((b.params.zip (ds.map V.d)).map (λx=>x.1)).map nm:=by refine rl List.map_map ?_;rfl
    rw[this,d]
   refine rl M ?_;refine iU L.kind H (by refine rl I ?_;exact cV.of' z) (rl d L.nodup) (λp N=>hs _ _ _ _ p.1 (rr d (List.mem_map.mpr ⟨p,N,rfl⟩))) λh1 j H1 V1 u o=>?_;refine⟨(G.nolimit.keeps H.all).keeps u,kla_codeExpr ?_⟩;refine aT (B s.heap.objs.size (qual++".<locals>.") (some a) (.ref c')) λop' X=>?_;rw[List.map_nil,List.append_nil]at y;exact X _ _ _ _ y _ f [] {s with heap:=h1,toks:=j} _ _ (E.deeper _) H1 V1 λf2 O i g A2 o2=>bG (CH u o H A2 Q o2) λP S3 H3 D3=>q P O i g S3 H3 D3
end
section
variable{w:World}{h₀ h h' h1:Heap}{f f':PM}{as as0:List (Addr×Addr)}{σ σ':ak}{fY cs:List Cell}{A:Around}{s:Shared}{n:Nat}{env:Env}{op:Bool}{C:Mine.Sem}{ρ:aB}
 {K:Frag}{mg mb:Str→Option Value}{sg:List D}
noncomputable abbrev Mk(scope:Scope)(L c:Addr)(x y:Nat)(qual:Str)(func:Option Addr)(code:Value):Env:=newEnv scope L mainGlobals [(nm x,L+1),(nm y,c)] qual func code none builtinsNs
theorem Gr{m t:Nat}{ld:eA}{a:Addr}{vs:List Value}(G:h8 K mg mb h₀ sg)(L:tO (fh k) [m])(E:ld.params=[m])(hx:m<71)(hy:t<71)(J:m≠t)
  (F:∀n cl,cellsFrom n (fh k).scope.names cl=(nm m,n)::cl)(kx:(fh k).scope.names.lookup (nm m)=some .cell)(ky:(fh k).scope.names.lookup (nm t)=some .free)
  (B:∀L c qual func code,∃op',aY w h₀ n (Mk (fh k).scope L c m t qual func code) false op' (fh k).body (aH C ld.body))(e:qo C ld [(t,d)] ds=some x)(Rm:bO A (n+1))(H:Hp h₀ f [] s.heap [])(D0:bP f (.ref a) (.ie k [(t,d)]))(dv:bQ f vs ds)
  (q:∀f' h' tk v,Step f s.heap [] [] f' h'→Hp h₀ f' [] h' []→bP f' v x→R (.ok (.ret v)) {s with heap:=h',toks:=tk}):codeAny (model P0 w) A (.call (.ref a) ⟨vs,[]⟩) R s:=by
 refine aS e λM P=>au P λv σ' ev Y=>?_;clear e P
 ·
  have M:=of_decide_eq_true M;replace M:=E▸M
  ·
   refine nR D0.zo λname qual cl pm ct c' oc yd zq=>?_;obtain⟨BU,a1,a2,a3,a4,a5⟩:=zq;clear D0;cases a5 with
   |@cons _ c I u _ _ _ N dc du rest=>
   cases rest;cases dv with
   |nil=>simp at M
   |@cons val dx _ _ r dr=>
   cases dr with
   |cons _ _=>simp at M
   |nil=>
   refine kla_callFunE (vP Rm.depth) (H.on _ _ a1) rfl L.co L.gen rfl (jC c' oc yd BU ⟨rfl,H.on _ _ a2,a3,a4⟩) ?_;refine rl (L.bind _ _ _ _ _ _ [val] rfl) ?_;refine wpAny_pure ?_;show wpAny _ _ (newFunctionEnv (fh k).scope mainGlobals [(nm t,c)] [(nm m,val)] _ _ _ none builtinsNs) _ _ _;simp only[newFunctionEnv,Option.isSome_none,Bool.false_eq_true,if_false];refine wpAny_bind (wpAny_alloc ?_);refine wpAny_bind (wpAny_layCells _ (λname kind cells=>by cases hkc:kind==NameKind.cell<;>rfl) _ _ _ _ ?_);have ok:=cellsFrom_ok (fh k).scope.names (s.heap.push {cls:=.type "frame",data:=.dict #[]}) (s.heap.objs.size+1) [] ⟨λzz zz hm=>(nomatch hm),List.Pairwise.nil⟩ (by rw[Heap.size_push];exact Nat.le_refl _);rw[Heap.size_push,F]at ok;rw[show({s with heap:=s.heap.push {cls:=.type "frame",data:=.dict #[]}}:Shared).heap.objs.size=s.heap.objs.size+1 from Heap.size_push ..,F];have kp:∀b o,s.heap.get? b=some o→(pushCells (s.heap.push {cls:=.type "frame",data:=.dict #[]}) (fh k).scope.names).get? b=some o:=λb o e=>pushCells_keeps _ _ b o (Heap.get?_push_of_some _ e);have Ic:(pushCells (s.heap.push {cls:=.type "frame",data:=.dict #[]}) (fh k).scope.names).IsCell (s.heap.objs.size+1) none:=(ok.empty _ _ (.head _)).1;have Nn:(pushCells (s.heap.push {cls:=.type "frame",data:=.dict #[]}) (fh k).scope.names).Ns s.heap.objs.size (λzz=>none):=(Heap.Ns.new s.heap (.type "frame")).keeps (pushCells_keeps _ _);generalize S:pushCells (s.heap.push {cls:=.type "frame",data:=.dict #[]}) (fh k).scope.names=h2 at kp Ic Nn⊢;generalize g:Mk (fh k).scope s.heap.objs.size c m t (qual++".<locals>.") (some a) (.ref c')=env;have l:({scope:=(fh k).scope,locals:=s.heap.objs.size,globals:=mainGlobals,cells:=[(nm m,s.heap.objs.size+1),(nm t,c)],qual:=qual++".<locals>.",func:=some a,code:=.ref c',frame:=some s.heap.objs.size,builtins:=builtinsNs}:Env)=env:=g;refine rl l ?_;have P:env.scope=(fh k).scope:=by refine rr g ?_;rfl
   have Y:env.locals=s.heap.objs.size:=by refine rr g ?_;rfl
   have V:env.cells=[(nm m,s.heap.objs.size+1),(nm t,c)]:=by refine rr g ?_;rfl
   have Q:nm t≠nm m:=λz=>J (s7 _ _ hy hx z).symm;have gL:s.heap.get? s.heap.objs.size=none:=aq (Nat.le_refl _);have gC:s.heap.get? (s.heap.objs.size+1)=none:=aq (Nat.le_succ _);have U:=H.on _ _ N;have lL:c≠s.heap.objs.size:=λz=>by rw[z,gL]at U;exact no U
   have lC:c≠s.heap.objs.size+1:=λz=>by rw[z,gC]at U;exact no U
   have kk:env.kindOf (nm m)=some .cell:=by unfold Env.kindOf;exact rl P kx
   have kf:env.kindOf (nm t)=some .free:=by unfold Env.kindOf;exact rl P ky
   have EO:jq env:=⟨rl P L.kind,by refine rr g ?_;rfl,by refine rr g ?_;rfl⟩;have H2:=H.keeps kp;have Z:∀b∈Env.adr env,b=s.heap.objs.size∨b=s.heap.objs.size+1∨b=c:=λb T=>by unfold Env.adr at T;rw[Y,V]at T;simpa using T
   refine wpAny_bind ?_;rw[List.forIn_cons];refine wpAny_bind (wpAny_bind (wpAny_storeName_cell EO.kind kk (by refine rl V ?_;refine rl List.lookup_cons ?_;simp) Ic λh3 I3 S3=>?_));refine wpAny_pure ?_;dsimp only;refine rl List.forIn_nil ?_;refine wpAny_pure (wpAny_pure ?_);have k3:∀b o,b≠s.heap.objs.size+1→h2.get? b=some o→h3.get? b=some o:=λb o T e=>(S3.2 b T).trans e;have k1:∀b o,s.heap.get? b=some o→h3.get? b=some o:=λb o e=>k3 b o (λz=>by rw[z,gC]at e;exact no e) (kp b o e);have H3:=H.keeps k1;have D:∀b,s.heap.get? b=none→b∉cT:=λb T z=>by refine aT (H.tabAt z) λo eo=>?_;rw[T]at eo;exact no eo
   have V3:Vr false f [] env h3 [(m,.d dx),(t,.d d)]:=by
    refine⟨EO,λz W ez=>?_,⟨λzz=>none,?_⟩,λp E=>?_,(λp E=>nomatch E),λb T z=>?_,?_,(λz=>nomatch z),?_,λp E=>?_⟩
    ·rw[List.lookup_cons]at ez;by_cases q1:z=m
     ·cases q1;simp at ez;subst ez;exact⟨hx,val,.inr ⟨.inl kk,s.heap.objs.size+1,by refine rl V (rl List.lookup_cons ?_);simp,I3⟩,r⟩
     ·rw[show(z==m)=false from beq_eq_false_iff_ne.mpr q1,List.lookup_cons]at ez;by_cases q2:z=t
      ·clear L hx J F kx ky a2 a3 a4 a1 r M ok S kp Ic l P kk EO H2 S3 q1;subst q2;simp at ez;subst ez;exact⟨hy,u,.inr ⟨.inr kf,c,by refine rl V (rl List.lookup_cons ?_);refine rl (beq_eq_false_iff_ne.mpr Q) (rl List.lookup_cons ?_);simp,⟨I,k1 _ _ U,dc⟩⟩,du⟩
      ·rw[show(z==t)=false from beq_eq_false_iff_ne.mpr q2]at ez;exact no ez
    ·exact rl Y (Heap.Ns.at' Nn (λx=>k3 _ x (Nat.ne_of_lt (Nat.lt_succ_self _))))
    ·rw[V]at E;simp only[List.mem_cons,List.not_mem_nil,or_false]at E;rcases E with rfl|rfl
     ·exact⟨_,I3⟩
     ·exact(fu _ I ⟨k1 _ _ U,dc⟩)
    ·clear L hx hy J F kx ky a2 a3 a4 dc du a1 r M ok S kp Ic Nn l P Q U kk kf EO H2 I3 S3 k3;rcases Z b T with rfl|rfl|rfl
     ·exact D _ gL z
     ·exact D _ gC z
     ·have:=H.jA _ z;rw[N]at this;exact on this
    ·exact rl Y (PM.dS H.on gL)
    ·refine rl V ?_;simp only[List.map_cons,List.map_nil,List.nodup_cons,List.mem_cons,List.not_mem_nil,or_false,not_false_eq_true,List.nodup_nil,and_true];exactλz=>lC z.symm
    ·rw[V]at E;refine rl Y ?_;simp only[List.mem_cons,List.not_mem_nil,or_false]at E;rcases E with rfl|rfl
     ·exact Nat.ne_of_gt (Nat.lt_succ_self _)
     ·exact lL
   refine⟨(G.nolimit.keeps H.all).keeps k1,kla_codeExpr ?_⟩;refine aT (B s.heap.objs.size c (qual++".<locals>.") (some a) (.ref c')) λop' X=>?_;rw[g]at X;replace ev:=E▸ev;have ev':aH C ld.body [(m,.d dx),(t,.d d)] []=some (v,σ'):=ev;refine X _ _ _ _ ev' _ f [] {s with heap:=h3} _ _ (Rm.deeper _) H3 V3 λf4 h4 PE PG A4 o4=>?_;have hn:σ'=[]:=by
    have:=A4.hp.len;clear G L hx hy J F kx ky B Rm a2 a3 a4 dc du a1 r M ok S kp Ic Nn g l P Y V Q U lL lC kk kf EO H2 I3 S3 k3 H3 D V3 X ev ev';cases σ' with
    |nil=>rfl
    |cons _ _=>simp at this
   clear G L hx hy J F kx ky B Rm a2 a3 a4 dc du a1 r M ok S kp Ic Nn g l P Y V Q U lL lC kk kf EO H2 I3 S3 k3 H3 D V3 X ev ev';subst hn;cases v with
   |loc j=>exact no Y
   |d y=>
    (revert q;refine one Y ?_;intro q)
    refine q f4 h4 PE PG ⟨A4.step.le,λb o O zz ht=>?_,λb o O=>?_⟩ A4.hp o4
    ·clear M o4 q zz;cases z:f b with
     |some o'=>
      have e5:=H.on _ _ z;rw[O]at e5;(revert z;refine one e5 ?_;intro z)
      exact A4.hp.on _ _ (A4.step.le _ _ z)
     |none=>
      refine A4.step.keep b o (k1 b o O) (λw=>?_) ht;clear E H ht;rcases Z b (by simpa using w)with rfl|rfl|rfl
      ·rw[gL]at O;exact no O
      ·rw[gC]at O;exact no O
      ·rw[N]at z;exact on z
    ·rcases A4.step.new b o O with z|z|z|z|z
     ·exact .inl z
     ·cases y':s.heap.get? b with
      |none=>exact .inr (.inl rfl)
      |some o'=>rw[k1 b o' y']at z;exact on z
     ·rcases Z b (by simpa using z)with rfl|rfl|rfl
      ·exact .inr (.inl gL)
      ·exact .inr (.inl gC)
      ·have:=A4.step.le _ _ N;replace this:=O▸this;(revert N;refine one this ?_;intro N)
       exact .inl N
     ·rcases Z b (List.mem_cons_of_mem _ z)with rfl|rfl|rfl
      ·exact .inr (.inl gL)
      ·exact .inr (.inl gC)
      ·have:=A4.step.le _ _ N;rw[O]at this;(revert N;refine one this ?_;intro N)
       exact .inl N
     ·exact .inr (.inr (.inr (.inr z)))
end
structure oQ(l:gq):Prop where
 g:tO l [10]
 s8:∀y∈l.scope.names,y.2≠.cell
 loc:l.scope.names.lookup (nm 10)=some .local
 body:∃p1 p2 p3 p4 p5 p6 p7 k1 k2 k,l.body= .Tuple [.Subscript (.Name (nm 10) p1) (.Constant (.int 1) k1 p2) p3,.Subscript (.Name (nm 10) p4) (.Constant (.int 0) k2 p5) p6] k p7
section
variable{w:World}{h₀ h h' h1:Heap}{f f':PM}{as as0:List (Addr×Addr)}{σ σ':ak}{fY cs:List Cell}{A:Around}{E:Value→Shared→Prop}{s:Shared}{n:Nat}{env:Env}{op:Bool}{C:Mine.Sem}{ρ:aB}
 {K:Frag}{mg mb:Str→Option Value}{sg:List D}
theorem zk{l:gq}{q x c':Addr}{p c:Str}{N U:Value}{a b:Int}{t u:Tok}{m:Nat}(d:oQ l)(g:A.depth<recursionLimit)(G:s.heap.NoLimit)
  (S:s.heap.get? q=some {cls:=.type "function",data:=.func (kla_fn p c l.params l.body l.scope [] N (.ref c') U)})(D:s.heap.CodeRec (.ref c') c)(R:s.heap.get? x=some (jB [.int a t,.int b u] m))
  (k:∀(r:Addr) (h':Heap) (tk:Nat) (M L:Tok),(∀b o,s.heap.get? b=some o→h'.get? b=some o)→s.heap.get? r=none→h'.get? r=some (jB [.int b L,.int a M] 0)→Q (.ref r) {s with heap:=h',toks:=tk}):
  wpAny (model P0 w) A (call (.ref q) [.ref x]) Q E s:=by
 refine rU d.body λp1 p2 p3 p4 Z K=>rU K λY X k1 k2 kk T=>wpAny_call (kla_callFunE g S rfl d.g.co d.g.gen rfl D ?_);refine rl (d.g.bind _ _ _ _ _ _ [.ref x] rfl) ?_;refine wpAny_pure (wpAny_newFunctionEnv d.s8 (λy P=>?_) (λh1 J B=>?_) d.g.kind)
 ·exact rl (List.mem_singleton.mp P) d.loc
 ·refine⟨G.fresh _ B,kla_codeExpr ?_⟩;have H:∀b o,s.heap.get? b=some o→h1.get? b=some o:=λb o e=>B.extBut b o (Nat.ne_of_lt (Heap.lt_size e)) (Heap.get?_push_of_some _ e);have v:=H _ _ R;have F:([nm 10].zip [Value.ref x]).reverse.lookup (nm 10)=some (.ref x):=by refine rl List.lookup_cons ?_;rfl
  refine rl T ?_;have O:∀env:Env,env.scope=l.scope→env.kindOf (nm 10)=some .local:=λenv e=>by unfold Env.kindOf;exact rl e d.loc
  have i:∀{pos:Pos} {tk:Nat} {Q':Value→Shared→Prop} {V:Value→Shared→Prop} {W:Around},Q' (.ref x) {s with heap:=h1,toks:=tk}→wpAny (model P0 w) W (eval (.Name (nm 10) pos) (newEnv l.scope s.heap.objs.size mainGlobals [] (c++".<locals>.") (some q) (.ref c') none builtinsNs)) Q' V {s with heap:=h1,toks:=tk}:=λI=>
   wpAny_Name (wpAny_loadName_local d.g.kind (O _ rfl) J F I) (mH 10 (by decide))
  refine wpAny_Tuple_spliced ?_;refine spliced_cons (Subscript_ (i (wpAny_Constant_int ?_)));refine item_tupleT ⟨_,v,rfl,m,rfl⟩ (by decide) (by decide) (j:=1) rfl rfl ?_;refine spliced_cons (Subscript_ (i (wpAny_Constant_int ?_)));refine item_tupleT ⟨_,v,rfl,m,rfl⟩ (by decide) (by decide) (j:=0) rfl rfl ?_;refine spliced_nil ⟨by refine rl sizeLine_eq ?_;simp,?_⟩;refine k h1.objs.size _ _ t u (λb o e=>Heap.get?_push_of_some _ (H b o e)) ?_ (Heap.get?_push_size _ rfl);cases z:s.heap.get? h1.objs.size with
  |none=>rfl
  |some o=>exact absurd (Heap.lt_size (H _ _ z)) (Nat.lt_irrefl _)
end
noncomputable def CM(h:Heap)(L kS:Addr):List (Addr×Obj):=(oT h L).filter λp=>decide (p.1≠kS)
theorem qe:(b,o)∈CM h L kS↔b≠L∧b≠kS∧h.get? b=some o:=by unfold CM;rw[List.mem_filter,fR,decide_eq_true_eq];exact⟨λd=>a9 d λd=>a9 d λa b c=>⟨a,c,b⟩,λd=>bR d λa c b=>⟨⟨a,b⟩,c⟩⟩
theorem iV{L kS:Addr}(g:kS≠L)(e:h.get? kS=some o):News {} L h ((kS,o)::CM h L kS):=λp c=>by
 refine Or.elim (List.mem_cons.mp c) (λd=>?_) λc=>?_
 ·subst d;exact⟨e,g,kq _⟩
 ·obtain⟨a,k⟩:=p;exact bR (qe.mp c) λj d i=>⟨i,j,kq _⟩
theorem jT:∀p∈CM h L kS,p.1≠kS:=λp b=>by obtain⟨a,o⟩:=p;exact(qe.mp b).2.1
theorem iR{h':Heap}(N:News {} L h' ((kS,o)::CM h L kS)):h'.get? kS=some o∧∀b x,b≠L→b≠kS→h.get? b=some x→h'.get? b=some x:=
 ⟨(N _ (.head _)).1,λb x c a e=>(N (b,x) (.tail _ (qe.mpr ⟨c,a,e⟩))).1⟩
noncomputable def kZ(h:Heap)(L kS:Addr):PM:=λb=>if b=L∨b=kS then none else h.get? b
theorem uy(h:Heap)(L kS:Addr):(kZ h L kS).on h:=λa o e=>by
 unfold kZ at e;split at e
 ·exact no e
 ·exact e
set_option tactic.hygienic true in
theorem Co(k:∀b x,b≠L→b≠kS→h.get? b=some x→h'.get? b=some x):(kZ h L kS).le (kZ h' L kS):=λa o e=>by
 unfold kZ at e⊢;split at e
 ·exact no e
 ·rename_i q;refine rl (if_neg q) ?_;rw[not_or]at q;exact k _ _ q.1 q.2 e
theorem Cn(c:a≠L)(b:a≠kS)(e:h.get? a=some o):kZ h L kS a=some o:=by unfold kZ;exact rl (if_neg (λq=>q.elim c b)) e
theorem bS.mono(l:f.le g):∀{vs:List Value} {ps:List (Int×Int)},bS f vs ps→bS g vs ps
 |_,_,.nil=>.nil
 |_,_,.cons e r=>.cons (l _ _ e) (r.mono l)
theorem bS.app{f:PM}(e:f a=some (jB [.int x t,.int y u] n)):∀{vs:List Value} {ps:List (Int×Int)},bS f vs ps→bS f (vs++[.ref a]) (ps++[(x,y)])
 |_,_,.nil=>.cons e .nil
 |_,_,.cons e' r=>.cons e' (r.app e)
noncomputable abbrev mQ(p:Int×Int):Int×Int:=(p.2,p.1)
section
variable{w:World}{A:Around}{E:Value→Shared→Prop}{s:Shared}{f:PM}{L kS:Addr}{m:Str→Option Value}
structure PT(f:PM)(L kS:Addr)(m:Str→Option Value)(hA:Heap)(ks:List Value)(e:Nat)(kps:List (Int×Int))(h:Heap):Prop where
 fr:Fr {} L h m
 at_:h.get? kS=some (seqObj "list" (List.toArray ks) e)
 keep:∀b x,b≠L→b≠kS→hA.get? b=some x→h.get? b=some x
 keys:bS (kZ h L kS) ks kps
theorem uI{l:gq}{q c':Addr}{D d:Str}{Y ct:Value}{N:Obj}{p:Array Value}{Fin:List Value→Nat→Shared→Prop}(SW:oQ l)(j:A.depth<recursionLimit)(Q:kS≠L)
  (hf:∀a o,f a=some o→a≠L∧a≠kS∧hA.get? a=some o)(F:∀h:Heap,(∀a o,f a=some o→h.get? a=some o)→h.NoLimit)
  (hq:f q=some {cls:=.type "function",data:=.func (kla_fn D d l.params l.body l.scope [] Y (.ref c') ct)})(hc:f c'=some N)(T:N.data= .fields p)(R:p[1]? =some (.str d BU)){r:List Value}{C:List (Int×Int)}(P:bS f r C):∀(ks:List Value) (c:List (Int×Int)) (e:Nat) (h:Heap) (tk:Nat),PT f L kS m hA ks e c h→
  (∀ks' e' h' tk',ks'.length=ks.length+r.length→PT f L kS m hA ks' e' (c++C.map mQ) h'→Fin ks' e' {s with heap:=h',toks:=tk'})→KatKeys P0 w A {} L m kS (.ref q) Fin r ks e {s with heap:=h,toks:=tk}:=by
 induction P with
 |nil=>exactλks c e h tk S k=>KatKeys.nil (k ks e h tk rfl (by rw[List.map_nil,List.append_nil];exact S))
 |@cons a t u n x y r ps ea P Z=>
  intro ks c e h tk S k;have H:∀a o,f a=some o→h.get? a=some o:=λa o e=>let⟨B,J,g⟩:=hf a o e;S.keep a o B J g
  refine jE (id S.fr.ns) λoL es ep eL zz=>KatKeys.cons (zk SW j (F h H) (H _ _ hq) (jC c' N p BU ⟨rfl,H _ _ hc,T,R⟩) (H _ _ ea) λM h' tk' t' u' I G er=>?_);have X:M≠L:=λz=>by rw[z]at G;exact absurd (G.symm.trans eL) (by intro w;exact no w)
  have W:M≠kS:=λz=>by replace G:=z▸G;exact absurd (G.symm.trans S.at_) (by intro w;exact no w)
  have F1:Fr {} L h' m:=S.fr.kept I;refine KatBack.intro F1 (iV Q (I _ _ S.at_)) (.head jT) λJ c2 F2 N2=>?_;refine a9 (iR N2) λg1 U=>?_;refine Z (ks++[.ref M]) (c++[(y,x)]) c2 J tk' ⟨F2,g1,λb z B g V=>U b z B g (I b z (S.keep b z B g V)),?_⟩ λks' e' g K hl S3=>k ks' e' g K (by refine rl hl ?_;refine rl List.length_append ?_;simp;exact A6) (by simpa using S3);have O:(kZ h L kS).le (kZ J L kS):=Co λb z B g V=>U b z B g (I b z V);exact(S.keys.mono O).app (Cn X W (U _ _ X W er))
theorem tI{U:gq}{l q:Addr}{vs:List Value}(SW:oQ U)(r:A.depth<recursionLimit)(N:s.heap.Ns L m)(hl:s.heap.IsList l vs.toArray)(F:f.on s.heap)(P:bS f vs ps)
  (hL:∀a o,f a=some o→a≠L)(y:∀h:Heap,(∀a o,f a=some o→h.get? a=some o)→h.NoLimit)(W:2≤vs.length)(K:vs.length<64)
  (hq:f q=some {cls:=.type "function",data:=.func (kla_fn name qual U.params U.body U.scope [] pm (.ref c') ct)})(hc:f c'=some oc)(J:oc.data= .fields yd)(I:yd[1]? =some (.str qual BU))
  (k:∀(D:Addr) (h':Heap) (c tk:Nat) (p:Array Nat),Fr {} L h' m→(∀b o,b≠L→s.heap.get? b=some o→h'.get? b=some o)→s.heap.get? D=none→mS vs.length p→oG (O:=mJ) (λi=>(ps.map mQ).getD i (0,0)) p vs.length→
   h'.get? D=some (dR (p.toList.map λi=>vs.getD i .none) c)→Q (.ref D) {s with heap:=h',toks:=tk}):
  wpAny (model P0 w) A (call (.builtin "sorted") [.ref l] [(Str.ofString "key",.ref q)]) Q E s:=by
 refine kat_sortedK (sP N) qg hl W K (ksk_s1 _ _) (λx=>ksk_l1 _ _) (λx=>ksk_t1 q x) λD kS e1 hA FA G lt H=>?_;have M:=(G _ (.head _)).1;have gD:=(G _ (.tail _ (.head _))).1;have kL:kS≠L:=(G _ (.head _)).2.1;have X:D≠L:=(G _ (.tail _ (.head _))).2.1;have Dk:=Nat.ne_of_lt lt;have kA:=kD G λp V=>List.mem_cons_of_mem _ (List.mem_cons_of_mem _ V);have u:∀b,D≤b→b≠L→s.heap.get? b=none:=λb B RY=>by
  cases e:s.heap.get? b with
  |none=>rfl
  |some o=>exact absurd (H (b,o) (fR.mpr ⟨RY,e⟩)) (Nat.not_lt.mpr B)
 have nk:=u kS (Nat.le_of_lt lt) kL;have nD:=u D (Nat.le_refl _) X;refine uI (w:=w) (A:=A.in1.in1) (s:=s) (hA:=hA) (f:=f) SW r kL (λa o e=>⟨hL a o e,λz=>?_,kA a o (hL a o e) (F a o e)⟩) y hq hc J I P [] [] 0 hA s.toks ⟨FA,M,λZ Z Z Z e=>e,.nil⟩ λks e h tk d S=>?_
 ·have:=F a o e;rw[z,nk]at this;exact no this
 ·rw[List.nil_append]at S;have PK:=S.keys;have d:ks.length=vs.length:=by simpa using d
  refine bG (PK.tups (uy h L kS)) λfs K1 K2 K3=>kat_kind (T:=.type "int") K1 (J6 W d K2) (λv hv=>?_) (by rfl) ?_
  ·refine qM (K3 v hv) λi t Y=>?_;clear SW r N hl F P hL y K hq hc J I FA G lt H M u d K1 K2 K3 hv;subst Y;exact Looks.of_pure rfl
  ·refine uG (c:=qR (O:=mJ) λi=>(ps.map mQ).getD i (0,0)) ?_ ?_ tk (yw (Bm W))
   ·exactλi j C tk hi hj c=>tX (by rfl) (uy h L kS) PK (d▸hi) (d▸hj) c
   ·refineλp tk V=>(fu _ _ ⟨S.fr,iV kL S.at_,.head jT,λW c F2 N2=>?_⟩);refine a9 (iR N2) λg1 g2=>(fu _ _ ⟨F2,iV X (g2 D _ X Dk (S.keep D _ X Dk gD)),.head jT,λh3 c3 F3 N3=>?_⟩);refine a9 (iR N3) λg3 g4=>k D h3 c3 tk p F3 (λb o B R=>?_) nD V.1 V.2 g3;have bk:b≠kS:=λz=>by rw[z,nk]at R;exact no R
    have bD:b≠D:=λz=>by rw[z,nD]at R;exact no R
    exact g4 b o B bD (g2 b o B bk (S.keep b o B bk (kA b o B R)))
end
section
variable{w:World}{A:Around}{E:Value→Shared→Prop}{s:Shared}{f:PM}{L kS a:Addr}{m:Str→Option Value}{vs ks:List Value}
theorem Gc(d:ks.length=vs.length)(c:vs.length<2)(h:KatFin h₀ L m kS a ks e e1 vs (λg=>P (.done (.ret .none)) g) s):
  wpAny (model P0 w) A (ksk_end a false vs.toArray e1 (.ref kS) (List.toArray ks)) P E s:=by
 have b:vs.toArray.size<2:=by exact rl List.size_toArray c
 unfold ksk_end;simp only[Bool.false_eq_true,if_false];refine rl (if_pos b) (rl (if_pos b) ?_);refine wpAny_bind (wpAny_pure ?_);rw[StateT.run_pure];refine wpAny_bind (wpAny_pure ?_);refine kat_tail ?_ (Bf c) (Eg d c) rfl h;apply Array.toList_inj.mp;rw[Array.toList_map,Array.toList_zip,List.map_snd_zip (by simp[d])]
set_option tactic.hygienic true in
theorem zD{l0:gq}(SW:oQ l0)(O:A.depth<recursionLimit)(N:s.heap.Ns L m)(hl:s.heap.IsList l vs.toArray)(F:f.on s.heap)(P:bS f vs ps)
  (hL:∀a o,f a=some o→a≠L)(Y:∀h:Heap,(∀a o,f a=some o→h.get? a=some o)→h.NoLimit)(h2:vs.length<2)
  (hq:f q=some {cls:=.type "function",data:=.func (kla_fn name qual l0.params l0.body l0.scope [] pm (.ref c') ct)})(hc:f c'=some oc)(hcd:oc.data= .fields yd)(RZ:yd[1]? =some (.str qual BU))
  (k:∀(D:Addr) (h':Heap) (c tk:Nat),Fr {} L h' m→(∀b o,b≠L→s.heap.get? b=some o→h'.get? b=some o)→s.heap.get? D=none→h'.get? D=some (dR vs c)→Q (.ref D) {s with heap:=h',toks:=tk}):
  wpAny (model P0 w) A (call (.builtin "sorted") [.ref l] [(Str.ofString "key",.ref q)]) Q E s:=by
 refine call_function_entry_kw kind_sorted plain_sorted entry_sorted (ksk_s1 _ _) ?_;unfold Builtin.«sorted»;refine wpAny_bind (wpAny_pure ?_);refine wpAny_bind (collect_list hl ?_ (by rw[sizeLine_eq];lia));refine wpAny_bind (wpAny_newList ?_ (by rw[sizeLine_eq];lia));have M:((s.heap.push (seqObj "list" #[] 0)).update s.heap.objs.size (Obj.mapSeq (λx=>x++vs.toArray))).objs.size=s.heap.objs.size+1:=by rw[Heap.size_update,size_push']
 have y:(((s.heap.push (seqObj "list" #[] 0)).update s.heap.objs.size (Obj.mapSeq (λx=>x++vs.toArray))).push (seqObj "list" vs.toArray 0)).get? (s.heap.objs.size+1)=some (seqObj "list" vs.toArray 0):=by exact rr M (Heap.get?_push_size _ rfl)
 have K:∀b o,s.heap.get? b=some o→(((s.heap.push (seqObj "list" #[] 0)).update s.heap.objs.size (Obj.mapSeq (λx=>x++vs.toArray))).push (seqObj "list" vs.toArray 0)).get? b=some o:=λb o q=>by have R:=Heap.lt_size q;refine rl (Heap.get?_push_ne _ _ _ (by refine rl M ?_;exact Nat.ne_of_lt (Nat.lt_succ_of_lt R))) ?_;refine rl (Heap.get?_update_ne _ _ _ _ (Nat.ne_of_lt R)) ?_;refine rl (Heap.get?_push_ne _ _ _ (Nat.ne_of_lt R)) ?_;exact q
 have QB:=N.lt;have nD:s.heap.get? (s.heap.objs.size+1)=none:=aq (Nat.le_succ _);show wpAny _ _ _ _ _ {s with heap:=((s.heap.push (seqObj "list" #[] 0)).update s.heap.objs.size (Obj.mapSeq (λx=>x++vs.toArray))).push (seqObj "list" vs.toArray 0)};refine rl M ?_;refine wpAny_bind (wpAny_holding (wpAny_call_entry_kw slot_list_sort ⟨_,y,rfl⟩ entry_list_sort ?body (ksk_l1 _ _)))
 case body=>
  generalize hH:((s.heap.push (seqObj "list" #[] 0)).update s.heap.objs.size (Obj.mapSeq (λx=>x++vs.toArray))).push (seqObj "list" vs.toArray 0)=H at y K;have ha:=Heap.lt_size y;have RV:=Nat.lt_trans QB (Nat.lt_trans (Nat.lt_succ_self _) ha);rw[ksk_t1];generalize QA:s.heap.objs.size+1=D at y ha nD;have DL:D≠L:=by exact rr QA (Nat.ne_of_gt (Nat.lt_succ_of_lt QB))
  obtain⟨e1,X⟩:∃e1,(H.update D (Obj.mapSeq λu=>(#[]:Array Value))).get? D=some (seqObj "list" #[] e1):=⟨_,get?_update_seq y λu=>#[]⟩;unfold ksk_tree;refine wpAny_bind (listItems_at y rfl ?_);refine wpAny_bind (listUpdate_at y rfl ?_ (by refine rl List.size_toArray ?_;refine rl sizeLine_eq ?_;lia) (Nat.zero_le _));refine wpAny_bind (seqEpoch_at X rfl ?_);refine wpAny_bind (wpAny_newTuple ?_ (by show vs.length≤_;refine rl sizeLine_eq ?_;lia));refine wpAny_bind (wpAny_newList ?_ (Nat.zero_le _));refine wpAny_holding ?_;have QD:((H.update D (Obj.mapSeq λu=>(#[]:Array Value))).push (seqObj "tuple" vs.toArray 0)).objs.size=H.objs.size+1:=by rw[size_push',Heap.size_update]
  have gk:(((H.update D (Obj.mapSeq λu=>(#[]:Array Value))).push (seqObj "tuple" vs.toArray 0)).push (seqObj "list" #[] 0)).get? (H.objs.size+1)=some (seqObj "list" #[] 0):=by exact rr QD (Heap.get?_push_size _ rfl)
  have gD:(((H.update D (Obj.mapSeq λu=>(#[]:Array Value))).push (seqObj "tuple" vs.toArray 0)).push (seqObj "list" #[] 0)).get? D=some (seqObj "list" #[] e1):=Heap.get?_push_of_some _ (Heap.get?_push_of_some _ X);have kH:∀b o,b≠D→H.get? b=some o→(((H.update D (Obj.mapSeq λu=>(#[]:Array Value))).push (seqObj "tuple" vs.toArray 0)).push (seqObj "list" #[] 0)).get? b=some o:=λb o hb e=>
   Heap.get?_push_of_some _ (Heap.get?_push_of_some _ ((Heap.get?_update_ne _ _ _ _ hb).trans e))
  refine rl QD ?_;generalize hG:((H.update D (Obj.mapSeq λu=>(#[]:Array Value))).push (seqObj "tuple" vs.toArray 0)).push (seqObj "list" #[] 0)=G at gk gD kH;have kA:∀b o,s.heap.get? b=some o→G.get? b=some o:=λb o e=>kH b o (λz=>by rw[z,nD]at e;exact no e) (K b o e);have J:=aq (IV QA ha);generalize Z:H.objs.size+1=kS at gk J;have kL:kS≠L:=by exact rr Z (Nat.ne_of_gt (Nat.lt_succ_of_lt RV))
  have Dk:D≠kS:=by exact rr Z (Nat.ne_of_lt (Nat.lt_succ_of_lt ha))
  have FG:=(sP N).kept kA;have W:=uI (w:=w) (A:=A.in1.in1) SW O kL (λa o e=>⟨hL a o e,(λz=>by have:=F a o e;rw[z,J]at this;exact no this),kA a o (F a o e)⟩) Y hq hc hcd RZ P [] [] 0 G s.toks ⟨FG,gk,λu u u u e=>e,.nil⟩
   (Fin:=λks e s'=>KatFin {} L m kS D ks e e1 vs (λs4=>Q (.ref D) s4) s') λks e h tk hlen S=>by
    refine(fu _ _ ⟨S.fr,iV kL S.at_,.head jT,λh2 c F2 N2=>?_⟩);refine a9 (iR N2) λg1 g2=>(fu _ _ ⟨F2,iV DL (g2 D _ DL Dk (S.keep D _ DL Dk gD)),.head jT,λh3 c3 F3 N3=>?_⟩);refine a9 (iR N3) λg3 g4=>k D h3 c3 tk F3 (λb o hb eb=>?_) nD g3;have bk:b≠kS:=λz=>by rw[z,J]at eb;exact no eb
    have bD:b≠D:=λz=>by rw[z,nD]at eb;exact no eb
    exact g4 b o hb bD (g2 b o hb bk (S.keep b o hb bk (kA b o eb)))
  unfold ksk_rest;refine wpAny_bind (wpAny_rule ?_);rw[List.forIn_toArray];refine wpAny_bind (wpAny_mono (kat_fold (Bf h2) (λx ks e s' C hz hx=>?_) vs [] 0 _ (by simp) gk W) (λu s' hd=>?_) λu u x=>x)
  ·refine wpAny_bind (wpAny_attempt (wpAny_mono hx (λk T hk=>?_) λu u hF=>hF.elim));refine D6 hk λnews' g F' N' U c=>D6 U.split λpre post e0 hg x1 x2=>?_;rw[e0]at N';have J:=N' (kS,seqObj "list" (List.toArray ks) e) (List.mem_append_right _ (.head _));have s1:=Heap.SameBut.update T.heap kS (Obj.mapSeq (λx=>x.push k));have ea:(List.toArray ks).push k=List.toArray (ks++[k]):=by simp
   obtain⟨c2,hc2⟩:∃c2,(T.heap.update kS (Obj.mapSeq (λx=>x.push k))).get? kS=some (seqObj "list" (List.toArray (ks++[k])) c2):=⟨_,rr ea (get?_update_seq J.1 (λx=>x.push k))⟩;refine wpAny_bind (listUpdate_at J.1 rfl ?_ (by refine rl List.size_toArray ?_;refine rl sizeLine_eq ?_;exact xS hz) (Nat.le_trans (Nat.le_of_eq (Array.size_push ..)) (by refine rl List.size_toArray (rl sizeLine_eq ?_);exact Eo hz)));exact wpAny_pure ⟨rfl,k,c2,hc2,c _ c2 (kas_fr F' s1 J.2.1 J.2.2) (by rw[hg];exact news_set N' x1 x2 s1 hc2)⟩
  ·refine fP hd λks e hk' hl' fin=>wpAny_bind (listItems_at hk' rfl ?_);exact Gc hl' h2 (fin.mono λs4 hq=>⟨_,rfl,wpAny_pure ⟨_,rfl,hq⟩⟩)
end
section
variable{w:World}{h₀ h h' h1:Heap}{f f':PM}{as as0:List (Addr×Addr)}{σ σ':ak}{fY cs:List Cell}{A:Around}{E:Value→Shared→Prop}{s:Shared}{n:Nat}{env:Env}{op:Bool}{C:Mine.Sem}{ρ:aB}
 {K:Frag}{mg mb:Str→Option Value}{sg:List D}
theorem vq(h:swapped p=true):asPair p.2=some (mQ p.1):=by
 unfold swapped at h;cases e:asPair p.2 with
 |none=>rw[e]at h;exact ft h
 |some q=>rw[e]at h;have h:=Bool.and_eq_true_iff.mp h;exact congrArg some (Prod.ext (of_decide_eq_true h.1) (of_decide_eq_true h.2))
theorem uH:∀{ps:List ((Int×Int)×D)},keyed C k l=some ps→ps.all swapped=true→l.mapM asPair=some (ps.map λp=>mQ p.1):=by
 induction l with
 |nil=>intro ps e _;exact one e rfl
 |cons x l a=>
  intro ps e hs
  revert hs
  refine az e λy c e=>az e λp d e=>az e λr b e=>one e λhs=>?_;rw[List.all_cons,Bool.and_eq_true]at hs;refine rl List.mapM_cons (rl (vq hs.1) ?_);refine rl (a b hs.2) ?_;rfl
theorem nW{a q:Addr}(G:h8 K mg mb h₀ sg)(W:oQ l)(Z:bO A n)(H:Hp h₀ f as s.heap σ)(V:Vr op f as env s.heap ρ)
  (g:s.heap.get? a=some (dR vs nn))(r:bQ f vs (ps.map ofPair))(P:bS f vs ps)(J:vs.length<64)
  (R:f q=some {cls:=.type "function",data:=.func (kla_fn name qual l.params l.body l.scope [] pm (.ref c') ct)})(T:f c'=some oc)(x:oc.data= .fields yd)(v:yd[1]? =some (.str qual BU))
  (k:∀f' h' tk val,cH h₀ op env f as s.heap ρ σ f' h'→bP f' val (.lst ((cy b9 (ps.map mQ)).map λp=>ofPair (p.2,p.1)))→Q val {s with heap:=h',toks:=tk}):
  wpAny (model P0 w) A (call (.builtin "sorted") [.ref a] [(Str.ofString "key",.ref q)]) Q E s:=by
 have d:=P.len;refine aT V.ns λm N=>?_;have U:∀a o,f a=some o→a≠env.locals:=λa o e z=>by rw[z,V.g7]at e;exact no e
 have j:∀h:Heap,(∀a o,f a=some o→h.get? a=some o)→h.NoLimit:=λh t=>G.nolimit.keeps λa o e=>t a o (H.base a o e);have b:A.depth<recursionLimit:=by have:=Z.depth;exact I7 this
 by_cases L:2≤vs.length
 ·refine tI W b N ⟨_,g,rfl,nn,rfl⟩ H.on P U j L J R T x v λD h' c tk p M t B S Y I=>?_;have y:=cH.newObj H V (rX H V N M t) B I;refine k _ h' tk _ y (.lst (PM.bA ..) ?_);have O:(ps.map mQ).length=vs.length:=by rw[List.length_map];exact Jb d
  refine rr (nN (O▸S) (O▸Y)) (rl List.map_map ?_);refine ph (r.mono y.step.le) λi X=>?_;have u:i<vs.length:=by simpa using(qj S).mem_iff.mp X
  refine⟨u,?_⟩;have F:i<ps.length:=by exact rZ d u
  simp[List.getD_eq_getElem?_getD,List.getElem?_map,List.getElem?_eq_getElem F]
 ·refine zD W b N ⟨_,g,rfl,nn,rfl⟩ H.on P U j (By L) R T x v λD h' c tk M t B I=>?_;have y:=cH.newObj H V (rX H V N M t) B I;refine k _ h' tk _ y (.lst (PM.bA ..) ?_);refine rl (uo (by rw[List.length_map];exact xH d L)) ?_;refine rl List.map_map ?_;exact r.mono y.step.le
theorem Af(G:h8 K mg mb h₀ sg)(B:bW env mg "sorted" (.builtin "sorted"))(O:jq env)(L:Aq h₀ env t)(W:fh k=⟨params,body,scope⟩)(SW:oQ (fh k))
  (b:defaultsOf params env=([],[]))(d:closureFor scope env=pure [])(j:starEach [a] env=[(false,eval a env)])(Ha:aY w h₀ n env op op a (aH C ta)):
  aY w h₀ n env op op (.Call (.Name "sorted" np) [a] [⟨some (Str.ofString "key"),.Lambda params body scope Pr,kp⟩] pos) (aH C (.rK k ta)):=by
 refineλρ σ v σ' e=>au e λva σ1 ea e=>az e λdl Y e=>aS e λhs e=>az e λps ek e=>aS e λc e=>two e ?_;refineλA f as s Q E R H V q=>wpAny_Call_Name_kw (B.eval G H V.ok ?_);refine callWith_kw ?_ (by refine rl j ?_;rfl) (by refine rl j ?_;rfl);refine rl j ?_;refine spliced_cons ?_;refine Ha ρ σ va σ1 ea A f as s _ E R H V λf1 h1 DZ v1 o o1=>spliced_nil ?_;refine kws_cons ?_;refine pY (X:=as.map (λx=>x.2)) (Z:=[]) G O L W b d o.hp .nil λf2 h2 F I M H2 N=>kws_nil ?_;have i:=o.trans (cH.of o.vr M H2);refine fG ((i.hp.view (oF Y) (o1.mono M.le)).lst i.hp.on) λx vs m u g r=>?_;clear B O L W b d j Ha ea Y e H V o o1 M H2;subst u;have J:vs.length<64:=by exact rl r.length (qv hs)
 refine a9 (qk (uH ek c) r) λP y=>?_;clear hs ek e c;clear e;subst y;obtain⟨qa,rfl⟩:∃qa,I= .ref qa:=by
  cases N with
  |ie _ _ _ _ _=>exact⟨_,rfl⟩
 refine nR N.zo λU T cl pm ct c' oc yd S=>D5 S λBU a1 a2 a3 a4 a5=>?_;clear e N S;cases a5;refine nW (s:={s with heap:=h2,toks:=F}) G SW R i.hp i.vr g r P J a1 a2 a3 a4 λf3 h3 D z A3 D3=>q f3 h3 D z (i.trans A3) ?_;have:(ps.map λp=>mQ p.1).map mQ=ps.map (λx=>x.1):=by refine rl List.map_map ?_;rfl
 rw[this]at D3;exact D3
end
noncomputable def xE(xs:Array Nat):Prop:=∀i k,i<k→k<xs.size→xs.getD i 0<xs.getD k 0
theorem uz{xs:Array Nat}{i:Nat}(h:i<xs.size)(d:Nat):xs.getD i d=xs.getD i 0:=by simp[Array.getD,h]
noncomputable def QO(xs:Array Nat)(j r:Nat):Prop:=(∀i,i<r→xs.getD i 0<j)∧∀i,r≤i→i<xs.size→j≤xs.getD i 0
theorem BD(R:xE xs):∀{lo hi:Nat},hi-lo≤d→lo≤hi→hi≤xs.size→(∀i,i<lo→xs.getD i 0<j)→(∀i,hi≤i→i<xs.size→j≤xs.getD i 0)→
  SetTable.below.go xs j d lo hi≤hi∧QO xs j (SetTable.below.go xs j d lo hi):=by
 induction d with
 |zero=>exactλl o n a b=>⟨o,a,λi h=>b i (Nat.le_trans (Nat.le_of_sub_eq_zero (Nat.le_zero.mp l)) h)⟩
 |succ d p=>
  intro lo hi l o n a b;by_cases q:lo<hi
  ·have m:=Cs q;have g:=yj q;have k:=Nat.lt_of_lt_of_le g n;by_cases f:xs.getD ((lo+hi)/2) 0<j
   ·exact rl (show SetTable.below.go xs j (d+1) lo hi=SetTable.below.go xs j d ((lo+hi)/2+1) hi from(if_pos q).trans (if_pos ((uz k j).symm▸f))) (p (Nat.le_of_lt_succ (Nat.lt_of_lt_of_le (Nat.sub_lt_sub_left q (Nat.lt_succ_of_le m)) l)) g n (λi z=>(Nat.lt_or_eq_of_le (Nat.le_of_lt_succ z)).elim (λe=>Nat.lt_trans (R i _ e k) f) λe=>e▸f) b)
   ·exact rl (show SetTable.below.go xs j (d+1) lo hi=SetTable.below.go xs j d lo ((lo+hi)/2)from(if_pos q).trans (if_neg ((uz k j).symm▸f))) (a9 (p (Nat.le_of_lt_succ (Nat.lt_of_lt_of_le (Nat.sub_lt_sub_right m g) l)) m (Nat.le_of_lt k) a λi s r=>(Nat.eq_or_lt_of_le s).elim (λe=>e▸Nat.not_lt.mp f) λe=>Nat.le_trans (Nat.not_lt.mp f) (Nat.le_of_lt (R _ i e r))) λx y=>⟨Nat.le_trans x (Nat.le_of_lt g),y⟩)
  ·exact rl (show SetTable.below.go xs j (d+1) lo hi=lo from if_neg q) (⟨o,a,λi h=>b i (Nat.le_trans (Nat.not_lt.mp q) h)⟩)
theorem lj(R:xE xs)(j:Nat):SetTable.below xs j≤xs.size∧(∀i,i<SetTable.below xs j→xs.getD i 0<j)∧∀i,SetTable.below xs j≤i→i<xs.size→j≤xs.getD i 0:=
 BD R (Nat.sub_le _ _) (Nat.zero_le _) (Nat.le_refl _) (λi h=>absurd h (Nat.not_lt_zero _)) λi b a=>absurd a (Nat.not_lt.mpr b)
theorem zX(R:xE xs)(h:xs[SetTable.below xs j]? ≠some j):∀i,i<xs.size→xs.getD i 0≠j:=λi b e=>by
 refine bR (lj R j) λk g f=>?_;have d:i=SetTable.below xs j:=by
  refine Or.elim (Nat.lt_trichotomy i (SetTable.below xs j)) (λq=>?_) λc=>Or.elim c (λq=>?_) λq=>?_
  ·have:=g i q;exact Ld e this
  ·exact q
  ·have a:=f _ (Nat.le_refl _) (Jm b q);have:=R _ _ q b;exact Je e a this
 apply h;refine rr d (rl (Array.getElem?_eq_getElem b) ?_)
 congr 1
 simpa[Array.getD,b]using e
theorem uC(a:p≤xs.size):(∀i,i<p→(SetTable.insertAt xs p x).getD i 0=xs.getD i 0)∧(SetTable.insertAt xs p x).getD p 0=x∧∀i,p≤i→(SetTable.insertAt xs p x).getD (i+1) 0=xs.getD i 0:=by
 have e:∀i,(SetTable.insertAt xs p x).getD i 0=((xs.toList.take p++x::xs.toList.drop p)[i]?).getD 0:=λi=>by rw[←SetTable.toList_insertAt];simp[Array.getD_eq_getD_getElem?]
 have o:∀i,xs.getD i 0=(xs.toList[i]?).getD 0:=λi=>by simp[Array.getD_eq_getD_getElem?]
 have l:=List.length_take.trans (Nat.min_eq_left a);refine⟨λi h=>(e i).trans ((congrArg (λz=>z.getD 0) ((List.getElem?_append_left (l.symm▸h)).trans (List.getElem?_take_of_lt h))).trans (o i).symm),(e p).trans (congrArg (λz=>z.getD 0) (show _=some x from(List.getElem?_append_right (Nat.le_of_eq l)).trans ?_)),
  λi h=>(e (i+1)).trans ((congrArg (λz=>z.getD 0) ((List.getElem?_append_right (l.symm▸Nat.le_succ_of_le h)).trans ?_)).trans (o i).symm)⟩
 ·rw[l,Nat.sub_self];rfl
 ·rw[l,Nat.succ_sub h,List.getElem?_cons_succ,List.getElem?_drop,Nat.add_sub_cancel' h]
theorem iD{xs:Array α}:(SetTable.insertAt xs p x).size=xs.size+1:=by have:=congrArg List.length (SetTable.toList_insertAt xs p x);simp only[List.length_append,List.length_take,List.length_cons,List.length_drop]at this;exact JS this
theorem lt_eq{b d:Nat}(h:a=a')(k:b=d)(c:a'<d):a<b:=h▸k▸c
theorem xe(R:xE xs)(h:xs[SetTable.below xs j]? ≠some j):xE (SetTable.insertAt xs (SetTable.below xs j) j):=λi k a b=>by
 replace b:=iD▸b;refine bR (lj R j) λg f e=>?_;have o:=zX R h;refine bR (uC g (x:=j)) λd n c=>?_;generalize SetTable.below xs j=p at g f e d n c⊢;refine(Nat.lt_trichotomy k p).elim (λl=>lt_eq (d i (Nat.lt_trans a l)) (d k l) (R i k a (Nat.lt_of_lt_of_le l g))) λq=>q.elim (λl=>lt_eq (d i (l▸a)) (l▸n) (f i (l▸a))) λl=>?_;cases k with
 |zero=>exact absurd l (Nat.not_lt_zero _)
 |succ k=>
  replace l:=Nat.le_of_lt_succ l;replace b:=Nat.lt_of_succ_lt_succ b;refine(Nat.lt_trichotomy i p).elim (λm=>lt_eq (d i m) (c k l) (Nat.lt_of_lt_of_le (f i m) (e k l b))) λq=>q.elim (λm=>lt_eq (m▸n) (c k l) (Nat.lt_of_le_of_ne (e k l b) (Ne.symm (o k b)))) λm=>?_;cases i with
  |zero=>exact absurd m (Nat.not_lt_zero _)
  |succ i=>exact lt_eq (c i (Nat.le_of_lt_succ m)) (c k l) (R i k (Nat.lt_of_succ_lt_succ a) b)
section
open SetTable (Probe Met)
noncomputable def lp(mask:Nat):Nat→Nat×Nat→Nat×Nat
 |0,x=>x
 |k+1,x=>lp mask k (SetTable.leap mask x.1 x.2)
theorem CR:∀(a b:Nat) (x:Nat×Nat),lp mask (a+b) x=lp mask b (lp mask a x)
 |0,b,x=>by rw[Nat.zero_add];rfl
 |a+1,b,x=>by rw[Nat.add_right_comm];exact CR a b _
theorem NL:∀(k:Nat) (x:Nat×Nat),(lp mask k x).2=x.2/32^ k
 |0,x=>by simp[lp]
 |k+1,x=>by show(lp mask k _).2=_;rw[NL k];show x.2/32/32^ k=_;simp only[Nat.div_div_eq_div_mul,Nat.pow_succ,Nat.mul_comm]
theorem NK:∀(k:Nat) (x:Nat×Nat),x.1≤mask→(lp mask k x).1≤mask
 |0,x,h=>h
 |k+1,x,_=>NK k _ (Nat.lt_succ_iff.mp (Nat.mod_lt _ (Nat.succ_pos _)))
theorem CS{c:Nat}(t:c=7∨c=31)(s:i≤c)(p:q<2^ 64)(r:j≤c):∃k,k≤13+c∧(lp c k (i,q)).1=j:=by
 have u:(lp c 13 (i,q)).2=0:=by rw[NL];exact Nat.div_eq_of_lt (Nat.lt_trans p (by decide))
 have n:=NK 13 (i,q) s;have m:∃k,k≤c∧(lp c k ((lp c 13 (i,q)).1,0)).1=j:=by
  generalize (lp c 13 (i,q)).1=a at n;have v:((List.range 8).all λa=>(List.range 8).all λj=>(List.range 8).any λk=>(lp 7 k (a,0)).1==j)=true:=by decide+kernel
  have o:((List.range 32).all λa=>(List.range 32).all λj=>(List.range 32).any λk=>(lp 31 k (a,0)).1==j)=true:=by decide+kernel
  clear s p;rcases t with rfl|rfl
  ·exact ay (List.any_eq_true.mp (List.all_eq_true.mp (List.all_eq_true.mp v a (List.mem_range.mpr (EI n))) j (List.mem_range.mpr (Nat.lt_succ_of_le r)))) λk g e=>⟨k,IU (List.mem_range.mp g),beq_iff_eq.mp e⟩
  ·exact ay (List.any_eq_true.mp (List.all_eq_true.mp (List.all_eq_true.mp o a (List.mem_range.mpr (Nat.lt_succ_of_le n))) j (List.mem_range.mpr (Nat.lt_succ_of_le r)))) λk g e=>⟨k,AO (List.mem_range.mp g),beq_iff_eq.mp e⟩
 refine ay m λk g e=>⟨13+k,Nat.add_le_add_left g 13,?_⟩;rw[CR,show lp c 13 (i,q)=((lp c 13 (i,q)).1,0)from Prod.ext rfl u];exact e
noncomputable def Ed(t:SetTable):Nat→Probe→Probe
 |0,p=>p
 |m+1,p=>Ed t m (t.advance p)
theorem xG:∀(a b:Nat) (p:Probe),Ed t (a+b) p=Ed t b (Ed t a p)
 |0,b,p=>by rw[Nat.zero_add];rfl
 |a+1,b,p=>by rw[Nat.add_right_comm];exact xG a b _
noncomputable def LS(t:SetTable)(p:Probe)(x:Nat×Nat):Prop:=p.i=x.1∧p.perturb=x.2∧p.j=x.1∧p.more=SetTable.runEnd t.mask x.1-x.1
theorem AA(k:Nat):∀(p:Probe),p.more=k→LS t (Ed t (k+1) p) (SetTable.leap t.mask p.i p.perturb):=by
 induction k with
 |zero=>exactλp h=>rl (show Ed t (0+1) p=_ from if_neg (h▸Nat.lt_irrefl 0)) (⟨rfl,rfl,rfl,rfl⟩)
 |succ k a=>intro p h;have e:t.advance p={p with j:=p.j+1,more:=p.more-1}:=if_pos (h▸Nat.succ_pos k);exact rl (congrArg (Ed t (k+1)) e) (a _ (AK h))
theorem Mz(a i:Nat):SetTable.runEnd a i-i≤9:=(Classical.em (i+9≤a)).elim (λh=>Nat.le_trans (Nat.le_of_eq (congrArg (λx=>x-i) (if_pos h))) (Nat.le_of_eq (Nat.add_sub_cancel_left i 9))) λh=>Nat.le_trans (Nat.le_of_eq ((congrArg (λx=>x-i) (if_neg h)).trans (Nat.sub_self i))) (Nat.zero_le 9)
theorem Mj(a i:Nat):i≤SetTable.runEnd a i:=
 (Classical.em (i+9≤a)).elim (λh=>Nat.le_trans (Nat.le_add_right i 9) (Nat.le_of_eq (if_pos h).symm)) λh=>Nat.le_of_eq (if_neg h).symm
theorem xX(h:Int):SetTable.bits h<2^ 64:=
 (Int.toNat_lt (Int.emod_nonneg _ (by decide))).mpr (Int.lt_of_lt_of_le (Int.emod_lt_of_pos h (show(0:Int)<2^ 64 by decide)) (by decide))
theorem AB:∀(k:Nat) (p:Probe) (x:Nat×Nat),LS t p x→∃m,m≤10*k∧LS t (Ed t m p) (lp t.mask k x)
 |0,p,x,h=>⟨0,Nat.le_refl _,h⟩
 |k+1,p,x,h=>by
  refine lR h λf e g d=>?_;have a:=AA (t:=t) p.more p rfl;rw[f,e]at a;refine ay (AB k _ _ a) λm c b=>⟨p.more+1+m,?_,?_⟩
  ·have:=Mz t.mask x.1;exact KL d c this
  ·rw[xG];exact b
noncomputable def HU(t:SetTable)(j:Nat):Prop:=∃i,i<t.place.size∧t.place.getD i 0=j
theorem GS(f:t.dummies=#[])(j:Nat):(t.slot j= .empty∧t.place[SetTable.below t.place j]? ≠some j)∨(∃i,t.slot j= .live i∧HU t j):=by
 unfold SetTable.slot;refine rl f ?_;by_cases h:(t.place[SetTable.below t.place j]? ==some j)=true
 ·refine rl (if_pos h) ?_;refine .inr ⟨_,rfl,SetTable.below t.place j,?_⟩;have h':=beq_iff_eq.mp h;exact aT (Array.getElem?_eq_some_iff.mp h') λd e=>⟨d,by simpa[Array.getD,d]using e⟩
 ·refine rl (if_neg h) ?_;refine .inl ⟨?_,λe=>h (beq_iff_eq.mpr e)⟩
  rfl
theorem Cr(g:t.dummies=#[]):∀(fuel:Nat) (p:Probe),(∃j,SetTable.probe.go t (λc=>h+1) h fuel p=some (.empty j p.dummy)∧t.place[SetTable.below t.place j]? ≠some j)∨∀m,m<fuel→HU t (Ed t m p).j
 |0,p=>.inr λm d=>absurd d (Nat.not_lt_zero _)
 |fuel+1,p=>by
  unfold SetTable.probe.go;refine Or.elim (GS g p.j) (λc=>?_) λc=>?_
  ·exact a9 c λe k=>rl e (.inl ⟨p.j,rfl,k⟩)
  ·refine ay c λi e l=>rl e ?_;dsimp only;refine rl (if_neg (by rw[beq_iff_eq];lia)) ?_;have f:(t.advance p).dummy=p.dummy:=by unfold SetTable.advance;split<;>rfl
   rcases Cr g fuel (t.advance p)with⟨j,a,b⟩|a
   ·exact .inl ⟨j,rr f a,b⟩
   ·refine .inr λm d=>?_;cases m with
    |zero=>exact l
    |succ m=>exact a m (Nat.lt_of_succ_lt_succ d)
theorem Dq(R:xE xs){k:Nat}(h:∀j,j≤k→∃i,i<xs.size∧xs.getD i 0=j):k<xs.size:=by
 have f:∀j,j≤k→∃i,j≤i∧i<xs.size∧xs.getD i 0=j:=by
  intro j;induction j with
  |zero=>intro e;exact ay (h 0 e) λi a b=>⟨i,Nat.zero_le _,a,b⟩
  |succ j l=>
   refineλe=>bG (l (se e)) λi a b c=>ay (h (j+1) e) λm n g=>⟨m,?_,n,g⟩;clear h l e n;rcases Nat.lt_trichotomy i m with q|q|q
   ·exact HY a q
   ·subst q;exact JB c g
   ·have:=R _ _ q b;exact Ku c g this
 exact bG (f k (Nat.le_refl _)) λi a b o=>IF a b
theorem uw{t:SetTable}(p:t.dummies=#[])(R:xE t.place)(i:t.mask=7∨t.mask=31)(hs:t.place.size≤t.mask)(h:Int):∃j,t.freeSlot h=some (j,false)∧t.place[SetTable.below t.place j]? ≠some j:=by
 have g:=xX h;have o:SetTable.bits h%(t.mask+1)≤t.mask:=Nat.lt_succ_iff.mp (Nat.mod_lt _ (Nat.succ_pos _));unfold SetTable.freeSlot SetTable.probe;refine Or.elim (Cr p (h:=h) (10*SetTable.turns t.mask) (t.probeStart h)) (λf=>?_) λa=>?_
 ·exact ay f λj a b=>rl a (⟨j,rfl,b⟩)
 ·exfalso;have d:∀j,j≤t.mask→HU t j:=λj n=>by refine ay (CS i o g n) λk l e=>ay (AB k (t.probeStart h) (SetTable.bits h%(t.mask+1),SetTable.bits h) ⟨rfl,rfl,rfl,rfl⟩) λm c L=>?_;have:=a m (by unfold SetTable.turns;exact HX l c);rw[L.2.2.1,e]at this;exact this
  exact Nat.not_lt.mpr hs (Dq R d)
end
noncomputable def CQ:List Str:=(["MillError","SizeFault","normal","borders","merged_borders","Walk","put_together","union","common","less","exclusive","cut_to","length","holds","holds_spans","moved","Region","of_rectangle","of_rows","by_rows","region_union","region_common","region_less","region_exclusive","region_moved","region_cut","is_inside","do_touch","rim","_law_pool","_law_take","_law_one","_law_signs","_law_drawn","_law_dots","_law_made","_law_is","_law_holds_right","_law_turned","_law_pair_right","_law_alone_right","_law_refused"]:List String).map Str.ofString
noncomputable def q0:Program:=PySem.W.view P0 [46]
noncomputable def cU:List (Addr×Addr):=iJ.map λt=>(t.2.1,t.1)
noncomputable def wK(o:Obj):Option (Array Value):=match o.data with
 | .fields vs=>some vs
 |_=>none
noncomputable def sH(o:Obj):Option (Array DictEntry×Nat):=match o.data with
 | .dict es n=>some (es,n)
 |_=>none
noncomputable def strOf(v:Value):Option (Str×Tok):=match v with
 | .str q t=>some (q,t)
 |_=>none
theorem ur(e:wK o=some vs):o.data= .fields vs:=by
 unfold wK at e;cases h:o.data with
 |fields a=>rw[h]at e;exact one e rfl
 |_=>rw[h]at e;exact no e
theorem sI(e:sH o=some p):o.data= .dict p.1 p.2:=by
 unfold sH at e;cases h:o.data with
 |dict a n=>rw[h]at e;exact one e rfl
 |_=>rw[h]at e;exact no e
theorem qD{v:Value}(e:strOf v=some p):v= .str p.1 p.2:=by
 cases v with
 |str q t=>exact one e rfl
 |_=>exact no e
noncomputable def Dh(h:Heap)(c:Addr):Option Str:=b1 (h.get? c) λo=>b1 (wK o) λvs=>b1 vs[1]? λv=>b1 (strOf v) λp=>some p.1
theorem z6(e:Dh h c=some q):h.CodeRec (.ref c) q:=
 az e λo g e=>az e λvs d e=>az e λv x e=>az e λp y e=>one e (jC c o vs p.2 ⟨rfl,g,ur d,qD y▸x⟩)
noncomputable def Ma(h:Heap)(c P:Addr):Bool:=match h.get? c with
 |some o=>codeHdIn [(c,o)] c P
 |none=>false
theorem Gj(e:Ma h c P=true):CodeHd h c P:=by
 unfold Ma at e;cases g:h.get? c with
 |none=>rw[g]at e;exact ft e
 |some o=>
  rw[g]at e;refine codeHd_of_K (λa b q=>?_) e;rw[List.lookup_cons]at q;cases hac:a==c with
  |true=>rw[hac]at q;refine one q (rl (beq_iff_eq.mp hac) ?_);exact g
  |false=>rw[hac]at q;exact no q
noncomputable def CX(h:Heap):Bool:=(b1 (h.get? sysModules) λo=>b1 (sH o) λp=>b1 p.1[0]? λe=>strOf e.key).isSome
theorem zS(e:CX h=true):i7 h:=
 (Option.isSome_iff_exists.mp e).elim λ_ e=>az e λo g e=>az e λp d e=>az e λx z e=>HR o p.1 p.2 x _ _ ⟨g,sI d,z,qD e⟩
theorem i7.keeps(x:i7 h)(k:∀b o,h.get? b=some o→h'.get? b=some o):i7 h':=
 OD x λo c n e x t g r a b=>HR o c n e x t ⟨k _ _ g,r,a,b⟩
structure MX(w:World)(h:Heap):Prop where
 K:(K0 w.params).In h
 tab:∀P∈cU.map (λx=>x.2),h.get? P=some (tabObj #[])
 hd:∀q∈cU,CodeHd h q.1 q.2
 Dl:∀r∈kX,h.CodeRec (.ref (r.at_-1)) (Str.ofString r.qual)
 mods:i7 h
noncomputable def pP:Hook where
 α:=List (Option Obj)×List (Option Obj)×Bool×List (Option Str)×Bool
 obs:=λs=>(as0.map s.heap.get?,(cU.map (λx=>x.2)).map s.heap.get?,cU.all (λq=>Ma s.heap q.1 q.2),kX.map (λr=>Dh s.heap (r.at_-1)),CX s.heap)
 val:=λw=>((K0 w.params).map λp=>some p.2,(cU.map (λx=>x.2)).map λzz=>some (tabObj #[]),true,kX.map (λr=>some (Str.ofString r.qual)),true)
 says:=MX
 of:=λw s x=>by obtain⟨x1,x⟩:=Prod.mk.inj x;obtain⟨x2,x⟩:=Prod.mk.inj x;obtain⟨x3,x⟩:=Prod.mk.inj x;obtain⟨x4,x5⟩:=Prod.mk.inj x;exact⟨InK.of (λP=>by kernel_rfl) w s x1,List.map_inj_left.mp x2,λq hq=>Gj (List.all_eq_true.mp x3 q hq),λr hr=>z6 (List.map_inj_left.mp x4 r hr),zS x5⟩
 keeps:=λw h h' x k=>⟨InK.keeps w h h' x.K k,λP hP=>k _ _ (x.tab P hP),λq hq=>(x.hd q hq).keeps k,λr hr=>(x.Dl r hr).keeps k,x.mods.keeps k⟩
noncomputable def isRef(v:Option Value)(a:Addr):Bool:=match v with
 |some (.ref b)=>Nat.beq b a
 |_=>false
theorem CA{v:Option Value}(e:isRef v a=true):v=some (.ref a):=by
 unfold isRef at e;split at e
 ·rw[Nat.eq_of_beq_eq_true e]
 ·exact ft e
noncomputable def OP(s:Shared):Bool:=(nh.all λp=>isRef (s.heap.nsMap mainGlobals p.1) p.2)&&pL.all λx=>(s.heap.nsMap mainGlobals x).isNone
noncomputable def PV(mg:Str→Option Value)(_:Heap):Prop:=(∀p∈nh,mg p.1=some (.ref p.2))∧∀x∈pL,mg x=none
theorem HW(s:Shared)(e:OP s=true):PV (s.heap.nsMap mainGlobals) s.heap:=a9 (Bool.and_eq_true_iff.mp e) λh g=>⟨λp f=>CA (List.all_eq_true.mp h p f),λx d=>Option.isNone_iff_eq_none.mp (List.all_eq_true.mp g x d)⟩
theorem NI:LeftO P0 q0 CQ OP pP.obs pP.val 4750:=λw=>by kernel_rfl
structure ic(w:World)(mg mb:Str→Option Value)(h:Heap):Prop where
 K:(K0 w.params).In h
 hd:∀q∈cU,CodeHd h q.1 q.2
 Dl:∀r∈kX,h.CodeRec (.ref (r.at_-1)) (Str.ofString r.qual)
 mods:i7 h
 g:h.Ns mainGlobals mg
 b:h.Ns builtinsNs mb
 nolimit:h.NoLimit
 builtins:∀x:Str,x≠"__name__"→mb x=bootBuiltins x
 bmain:∃bm ob,mg "__builtins__"=some (.ref bm)∧bm≠builtinsNs∧h.get? bm=some ob∧ob.cls= .type "module"∧ob.dict=some builtinsNs∧ob.data= .plain
 names:∀p∈nh,mg p.1=some (.ref p.2)
 frees:∀x∈pL,mg x=none
theorem zK(d:TabsAt cU h)(b:∀c,cd= .ref c→c∉cU.map (λx=>x.2))(x:h.CodeRec cd q):(ghostOf h cU).CodeRec cd q:=by refine rT x λc o vs t a g r=>?_;clear d x;subst a;exact(jC c o vs t ⟨rfl,ghost_ne g (b c rfl),r⟩)
theorem Cq(p:TabsAt cU h)(x:CodeHd h c P):CodeHd (ghostOf h cU) c P:=rU x λo vs f n b k=>rT k λm i d l s g r=>(Ao o vs f n b m i d ⟨l,ghost_get p s (λq=>by replace g:=q▸g;cases g),g,r⟩)
theorem Ak{l:Addr}{vs:List Value}(x:Well P h (.ref l) (ofPy (.list xs)))(y:h.IsList l vs.toArray):h.get? l=some (dR vs 0):=by
 rw[ofPy]at x;refine bG y λo e b c=>?_;clear y b;obtain⟨n,d⟩:=c;cases x with
 |list a r=>
  replace e:=a▸e;cases e;injection d with e3
  rw[a,e3]
theorem Al:PySem.Challenge.rw_pf0191_01.wellSaid=true:=by kernel_rfl
set_option tactic.hygienic true in
theorem Mi(walk:∀(w:World) (s:Shared) (mg mb:Str→Option Value),TabsAt cU s.heap→ic w mg mb (ghostOf s.heap cU)→s.gens=#[]→∀(l:Addr) (vs:List Value) (ns:List Int),
  (ghostOf s.heap cU).get? l=some (dR vs 0)→IntsAre vs ns→ns.length≤63→codeAny (model P0 w) callerA (.call (.ref 376) ⟨[.ref l],[]⟩)
   (λr s'=>r= .ok (.ret (.bool true))∧(∀b o,(ghostOf s.heap cU).get? b=some o→s'.heap.get? b=some o)∧s'.os=s.os∧s'.gens=#[]∧GrownAll cU s'.heap) s):PySem.Challenge.rw_pf0191_01.Holds:=by
 w_on
 refine holds_law Al λsaid=>?_;refine holds_open (q:=q0) (loose:=CQ) (Xt:=OP) (XP:=PV) (Yf:=pP.obs) (Ya:=pP.val) (YP:=pP.says) (N:=4750) NI pP.of pP.keeps HW (λzz zz zz x zz=>x) (by rfl) (by rfl) (by rfl) (λs zz=>recFacts_of (R:=[]) (by rfl)) (by rfl) ?k1 ?ok ?hb ?hw ?call
 case k1=>assumption
 case ok=>decide+kernel
 case hb=>exact⟨rfl,rfl,rfl,rfl,rfl,by decide+kernel⟩
 case hw=>w_witness2
 case call=>
  intro w s₀ s₁ mg mb G Y fa o pm cd doc dV kV ho hd hcd hD hmg hg args vals as hpre hlay hrd QF hlo;have T:=G.T;have X:=G.X;have hT:TabsAt cU s₁.heap:=λq hq=>⟨Y.hd q hq,Y.tab q.2 (List.mem_map.mpr ⟨q,hq,rfl⟩)⟩;have fa_eq:fa=376:=by have e:=X.1 (Str.ofString "law",376) (by decide+kernel);have e2:mg (Str.ofString "law")=some (.ref fa):=hmg;rw[e2]at e;cases e;rfl
  subst fa_eq;have L:ic w mg mb (ghostOf s₁.heap cU):=by
   refine⟨ghost_K hT Y.K (by kernel_rfl),λq hq=>Cq hT (Y.hd q hq),λr hr=>zK hT (λc e=>?_) (Y.Dl r hr),?_,ghost_ns hT T.g,ghost_ns hT T.b,?_,T.builtins,?_,X.1,X.2⟩
   ·cases e;have:(kX.all λr=>!(cU.map (λx=>x.2)).contains (r.at_-1))=true:=by decide+kernel
    have:=List.all_eq_true.mp this r hr;simpa using this
   ·obtain⟨o,es,n,e,x,t,g,dt,r⟩:=Y.mods;exact⟨o,es,n,e,x,t,ghost_get hT g (λq=>by rw[q]at dt;cases dt),dt,r⟩
   ·obtain⟨mc,h1,h2⟩:=T.nolimit;exact⟨mc,ghost_ns hT h1,h2⟩
   ·obtain⟨bm,ob,h1,h2,h3,h4,h5,h6⟩:=T.bmain;exact⟨bm,ob,h1,h2,ghost_get hT h3 (λq=>by rw[q]at h4;cases h4),h4,h5,h6⟩
  have hW:=QF
  wrow_args hpre hlay hrd QF hlo
  rename_i l _ _ hl _ _ _ hI _ hlen _;refine enter_call (kn_post hT (λzz zz=>rfl) ?_);refine codeAny_mono (walk w s₁ mg mb hT L hg _ _ _ (ghost_get hT (Ak (wellAll_head hW).1 hl) λq=>nomatch q) hI (by omega)) λr s' ⟨h1,h2,h3,h4,h5⟩=>?_;subst h1;refine⟨⟨.inl ⟨_,.bool true,[],rfl,λzz=>rfl,?_,?_,λzz=>⟨List.nodup_nil,λzz q=>nomatch q⟩⟩,h2,h3,h4⟩,h5⟩
  ·exact .bool _
  ·wrow_post
noncomputable abbrev aV(g:Nat)(L:Addr):Env:=e7 (nq (k8 g)) L (Str.ofString (HB g)++".<locals>.") (some (ia g)) (.ref (ia g-1))
structure Cx(w:World)(h₀:Heap)(mg mb:Str→Option Value)(n:Nat)(C:Mine.Sem):Prop where
 G:h8 (K0 w.params) mg mb h₀ bz.signs
 N:∀p∈nh,mg p.1=some (.ref p.2)
 F:∀x∈pL,mg x=none
 CO:lg w h₀ n C
 NO:tP w h₀ n C
 LO:Ar w h₀ n C
 MO:vF (K0 w.params) C
 sg:C.signs=bz.signs
 hd:∀q∈cU,CodeHd h₀ q.1 q.2
noncomputable def qC(env:Env)(x:Nat):Bool:=Nat.blt x 71&&(match env.kindOf (nm x)with |some .local=>true|some .cell=>(env.cells.lookup (nm x)).isSome|_=>false)
noncomputable def Pp(env:Env)(x:Nat):Bool:=Nat.blt x 71&&(match env.kindOf (nm x)with |some .local=>true|_=>false)
set_option tactic.hygienic true in
theorem eM(e:qC env x=true):aG env true x:=by
 refine a9 (Bool.and_eq_true_iff.mp e) λb a=>⟨Nat.blt_eq.mp b,?_⟩;split at a
 ·rename_i q;exact .inl q
 ·rename_i q;exact .inr ⟨q,rfl,Option.isSome_iff_exists.mp a⟩
 ·exact ft a
set_option tactic.hygienic true in
theorem ao(e:Pp env x=true):aG env op x:=by
 refine a9 (Bool.and_eq_true_iff.mp e) λb a=>⟨Nat.blt_eq.mp b,?_⟩;split at a
 ·rename_i q;exact .inl q
 ·exact ft a
theorem all1{P:α→Prop}(h:P a):∀x∈[a],P x:=λx b=>by exact rl (List.mem_singleton.mp b) h
theorem all2{P:α→Prop}(h:P a)(c:P b):∀x∈[a,b],P x:=List.forall_mem_cons.mpr ⟨h,all1 c⟩
theorem yX{P:α→Prop}(h:P a)(e:P b)(d:P c):∀x∈[a,b,c],P x:=List.forall_mem_cons.mpr ⟨h,all2 e d⟩
theorem OR{P:α→Prop}(h:P a)(g:P b)(f:P c)(e:P d):∀x∈[a,b,c,d],P x:=List.forall_mem_cons.mpr ⟨h,yX g f e⟩
theorem ne2{b:α}:∀y,[a,b]≠[y]:=λy h=>by simp at h
theorem ne3{b c:α}:∀y,[a,b,c]≠[y]:=λy h=>by simp at h
noncomputable def wX(l:List (Str×NameKind)):Bool:=l.all λx=>(match x.2 with | .local=>(match l.lookup x.1 with |some .local=>true|_=>false)| .cell=>false|_=>true)
noncomputable def wY(l:List Str):Bool:=match l with
 |[]=>true
 |x::r=>!r.elem x&&wY r
theorem rC:∀{l:List Str},wY l=true→l.Nodup
 |[],_=>List.nodup_nil
 |x::r,e=>by refine a9 (Bool.and_eq_true_iff.mp e) λh1 h2=>List.nodup_cons.mpr ⟨λq=>?_,rC h2⟩;rw[List.elem_eq_true_of_mem q]at h1;exact ft h1
noncomputable def yc(env:Env)(scope:Scope)(ck tg:List Nat):Bool:=
 (match scope.kind with | .function=>true|_=>false)&&(wX scope.names&&((b8 scope.names).all (λx=>(env.cells.lookup x).isSome)&&(wY (b8 scope.names)&&
 (ck.all (λx=>Nat.blt x 71&&((match scope.names.lookup (nm x)with |some .free=>true|_=>false)&&((b8 scope.names).elem (nm x)&&(match env.kindOf (nm x)with |some .cell=>true|some .free=>true|_=>false))))&&
 ((List.range 71).all (λx=>!(b8 scope.names).elem (nm x)||ck.elem x)&&tg.all λx=>!ck.elem x)))))
set_option tactic.hygienic true in
theorem bx(e:yc env scope ck tg=true):rR env scope ck tg:=by
 simp only[yc,Bool.and_eq_true]at e;refine HM e λh1 h2 h3 h4 h5 h6 h7=>⟨?_,λx hx hl=>?_,λy hy hc=>?_,λx hx=>Option.isSome_iff_exists.mp (List.all_eq_true.mp h3 x hx),rC h4,λx hx=>?_,λx lt hx=>?_,λx hx hc=>?_⟩
 ·split at h1
  ·assumption
  ·exact ft h1
 ·have:=List.all_eq_true.mp h2 x hx;rw[hl]at this;dsimp only at this;split at this
  ·assumption
  ·exact ft this
 ·have:=List.all_eq_true.mp h2 y hy;rw[hc]at this;exact ft this
 ·have:=List.all_eq_true.mp h5 x hx;simp only[Bool.and_eq_true]at this;refine lR this λg1 g2 g3 g4=>⟨Nat.blt_eq.mp g1,?_,List.mem_of_elem_eq_true g3,?_⟩
  ·split at g2
   ·assumption
   ·exact ft g2
  ·split at g4
   ·rename_i q;exact .inl q
   ·rename_i q;exact .inr q
   ·exact ft g4
 ·have:=List.all_eq_true.mp h6 x (List.mem_range.mpr lt);rw[List.elem_eq_true_of_mem hx]at this;exact List.mem_of_elem_eq_true (by simpa using this)
 ·have:=List.all_eq_true.mp h7 x hx;rw[List.elem_eq_true_of_mem hc]at this;exact ft this
section
variable{w:World}{h₀:Heap}{mg mb:Str→Option Value}{n:Nat}{C:Mine.Sem}{env:Env}{op dU jD:Bool}
theorem vj:aY w h₀ n env op op (.Dict [] [] pos) (aH C (.dct [] .nil)):=λρ σ v σ' e=>two e λA f as s Q E R H V q=>wpAny_Dict_empty (q _ _ s.toks _ (cH.newObj H V (cH.keeps H V λb o e=>Heap.get?_push_of_some _ e) (aq (Nat.le_refl _)) (Heap.get?_push_size _ rfl)) (.dct (PM.bA ..) List.nodup_nil .nil))
theorem qx:cR w h₀ n env op op t (fZ C .raise):=λρ σ fl ρ' σ' e=>no e
theorem jI(X:Cx w h₀ mg mb n C)(hx:x∈pL)(hd:(x==("__debug__":Str))=false)(hn:(x==("__name__":Str))=false)(hv:bootBuiltins x=some v)(hk:env.kindOf x=some .globalImplicit):bW env mg x v:=
 ⟨hk,X.F x hx,hd,λq=>by rw[q]at hn;exact absurd hn (by decide),hv⟩
theorem gu(X:Cx w h₀ mg mb n C)(hk:env.kindOf (Str.ofString "int")=some .globalImplicit):bW env mg "int" (.type "int"):=jI X (by decide+kernel) (by decide+kernel) (by decide+kernel) (by decide+kernel) hk
theorem eY(X:Cx w h₀ mg mb n C)(hk:env.kindOf (Str.ofString "len")=some .globalImplicit):bW env mg "len" (.builtin "len"):=jI X (by decide+kernel) (by decide+kernel) (by decide+kernel) (by decide+kernel) hk
theorem gQ(X:Cx w h₀ mg mb n C)(hk:env.kindOf (Str.ofString "sorted")=some .globalImplicit):bW env mg "sorted" (.builtin "sorted"):=jI X (by decide+kernel) (by decide+kernel) (by decide+kernel) (by decide+kernel) hk
theorem ja(X:Cx w h₀ mg mb n C)(hk:env.kindOf (Str.ofString "list")=some .globalImplicit):bW env mg "list" (.type "list"):=jI X (by decide+kernel) (by decide+kernel) (by decide+kernel) (by decide+kernel) hk
theorem sA(X:Cx w h₀ mg mb n C)(hk:env.kindOf (Str.ofString "dict")=some .globalImplicit):bW env mg "dict" (.type "dict"):=jI X (by decide+kernel) (by decide+kernel) (by decide+kernel) (by decide+kernel) hk
theorem LM(X:Cx w h₀ mg mb n C)(hk:env.kindOf (Str.ofString "sum")=some .globalImplicit):bW env mg "sum" (.builtin "sum"):=jI X (by decide+kernel) (by decide+kernel) (by decide+kernel) (by decide+kernel) hk
theorem wc(X:Cx w h₀ mg mb n C)(hk:env.kindOf (Str.ofString "min")=some .globalImplicit):bW env mg "min" (.builtin "min"):=jI X (by decide+kernel) (by decide+kernel) (by decide+kernel) (by decide+kernel) hk
theorem sC(X:Cx w h₀ mg mb n C)(hk:env.kindOf (Str.ofString "max")=some .globalImplicit):bW env mg "max" (.builtin "max"):=jI X (by decide+kernel) (by decide+kernel) (by decide+kernel) (by decide+kernel) hk
theorem eF(X:Cx w h₀ mg mb n C)(hk:env.kindOf (Str.ofString "range")=some .globalImplicit):bW env mg "range" (.type "range"):=jI X (by decide+kernel) (by decide+kernel) (by decide+kernel) (by decide+kernel) hk
theorem i9(X:Cx w h₀ mg mb n C)(hk:env.kindOf (Str.ofString "enumerate")=some .globalImplicit):bW env mg "enumerate" (.type "enumerate"):=jI X (by decide+kernel) (by decide+kernel) (by decide+kernel) (by decide+kernel) hk
theorem LL(X:Cx w h₀ mg mb n C)(hk:env.kindOf (Str.ofString "set")=some .globalImplicit):bW env mg "set" (.type "set"):=jI X (by decide+kernel) (by decide+kernel) (by decide+kernel) (by decide+kernel) hk
theorem gr:(∃T,df .int= .type T)∨∃T,df .int= .builtin T:=.inl ⟨_,rfl⟩
theorem j8:(∃T,df .list= .type T)∨∃T,df .list= .builtin T:=.inl ⟨_,rfl⟩
theorem sy:(∃T,df .dict= .type T)∨∃T,df .dict= .builtin T:=.inl ⟨_,rfl⟩
theorem eX:(∃T,df .len= .type T)∨∃T,df .len= .builtin T:=.inr ⟨_,rfl⟩
theorem j9:(∃T,df .sorted= .type T)∨∃T,df .sorted= .builtin T:=.inr ⟨_,rfl⟩
theorem LK:(∃T,df .sum= .type T)∨∃T,df .sum= .builtin T:=.inr ⟨_,rfl⟩
theorem v7:(∃T,df .min= .type T)∨∃T,df .min= .builtin T:=.inr ⟨_,rfl⟩
theorem BC:(∃T,df .max= .type T)∨∃T,df .max= .builtin T:=.inr ⟨_,rfl⟩
theorem xW:(∃T,df .max2= .type T)∨∃T,df .max2= .builtin T:=.inr ⟨_,rfl⟩
theorem gv(_X:Cx w h₀ mg mb n C):fb w h₀ .int (cC .int):=Fx
theorem kg(X:Cx w h₀ mg mb n C):fb w h₀ .list (cC .list):=lY X.G.mods
theorem sD(_X:Cx w h₀ mg mb n C):fb w h₀ .dict (cC .dict):=jH
theorem eZ(X:Cx w h₀ mg mb n C):fb w h₀ .len (cC .len):=Fy X.G.mods
theorem kh(_X:Cx w h₀ mg mb n C):fb w h₀ .sorted (cC .sorted):=v9
theorem LN(_X:Cx w h₀ mg mb n C):fb w h₀ .sum (cC .sum):=Fz
theorem we(_X:Cx w h₀ mg mb n C):fb w h₀ .min (cC .min):=n5
theorem BH(_X:Cx w h₀ mg mb n C):fb w h₀ .max (cC .max):=nZ
theorem xY(_X:Cx w h₀ mg mb n C):fb w h₀ .max2 (cC .max2):=BF
theorem bC(X:Cx w h₀ mg mb n C)(B:bW env mg x (df b))(hb:(∃T,df b= .type T)∨∃T,df b= .builtin T)(O:fb w h₀ b (cC b))(Hl:eW w h₀ n env op op l (bH C tl)):
  aY w h₀ n env op op (.Call (.Name x np) l [] pos) (aH C (.blt b tl)):=GU X.G B hb O Hl
theorem FJ(X:Cx w h₀ mg mb n C)(hk:env.kindOf (Str.ofString "_law_signs")=some .globalImplicit):aY w h₀ n env op op (.Name (Str.ofString "_law_signs") pos) (aH C .signs):=Ae X.G X.sg hk (by decide+kernel)
noncomputable def gB(x:Str)(g:Nat):Bool:=Nat.blt g 47&&(!(x==("__debug__":Str))&&(match nh.lookup x with |some a=>Nat.beq a (ia g)|none=>false))
set_option tactic.hygienic true in
theorem Cp(X:Cx w h₀ mg mb n C){x:Str}(e:gB x g=true):g<47∧(x==("__debug__":Str))=false∧mg x=some (.ref (ia g)):=by
 simp only[gB,Bool.and_eq_true]at e;refine bR e λh1 h2 h3=>⟨Nat.blt_eq.mp h1,by simpa using h2,?_⟩;split at h3
 ·rename_i a q;have:=X.N _ (PySem.mem_of_lookup q);replace this:=(Nat.eq_of_beq_eq_true h3)▸this;exact this
 ·exact ft h3
noncomputable def cB(x:Str)(c:Nat):Bool:=(Nat.beq c 0||Nat.beq c 1)&&(!(x==("__debug__":Str))&&(match nh.lookup x with |some a=>Nat.beq a (ik c)|none=>false))
set_option tactic.hygienic true in
theorem Ho(X:Cx w h₀ mg mb n C){x:Str}(e:cB x c=true):(c=0∨c=1)∧(x==("__debug__":Str))=false∧mg x=some (.ref (ik c)):=by
 simp only[cB,Bool.and_eq_true,Bool.or_eq_true]at e;refine bR e λh1 h2 h3=>⟨h1.imp Nat.eq_of_beq_eq_true Nat.eq_of_beq_eq_true,by simpa using h2,?_⟩;split at h3
 ·rename_i a q;have:=X.N _ (PySem.mem_of_lookup q);replace this:=(Nat.eq_of_beq_eq_true h3)▸this;exact this
 ·exact ft h3
theorem sE(X:Cx w h₀ mg mb n C){g:Nat}{pos:Pos}(e:gB x g=true)(hk:env.kindOf x=some .globalImplicit):aY w h₀ n env op op (.Name x pos) (aH C (.glob g)):=let⟨h1,h2,h3⟩:=Cp X e;DJ X.G h1 hk h2 h3
theorem aO(X:Cx w h₀ mg mb n C)(e:gB x g=true)(hk:env.kindOf x=some .globalImplicit)(Hl:eW w h₀ n env op dU l (bH C tl)):aY w h₀ n env op dU (.Call (.Name x np) l [] pos) (aH C (.call g tl)):=let⟨h1,h2,h3⟩:=Cp X e;DI X.G X.CO h1 hk h2 h3 Hl
theorem FH(X:Cx w h₀ mg mb n C)(e:gB x g=true)(hk:env.kindOf x=some .globalImplicit)(Hl:eW w h₀ n env op op l (bH C tl)):qP w h₀ n env op (eval (.Call (.Name x np) l [] pos) env) (fK C (.call g tl)):=let⟨h1,h2,h3⟩:=Cp X e;z9 X.G X.CO h1 hk h2 h3 Hl
theorem kT(X:Cx w h₀ mg mb n C){c:Nat}{x:Str}(e:cB x c=true)(hk:env.kindOf x=some .globalImplicit)(Hl:eW w h₀ n env op dU l (bH C tl)):aY w h₀ n env op dU (.Call (.Name x np) l [] pos) (aH C (.new c tl)):=let⟨h1,h2,h3⟩:=Ho X e;GW X.G X.NO h1 hk h2 h3 Hl
theorem BK(X:Cx w h₀ mg mb n C){x:Str}(e:cB x c=true)(hk:env.kindOf x=some .globalImplicit)(Hl:eW w h₀ n env op op l (bH C tl)):qP w h₀ n env op (eval (.Call (.Name x np) l [] pos) env) (fK C (.new c tl)):=let⟨h1,h2,h3⟩:=Ho X e;DH X.G X.NO h1 hk h2 h3 Hl
theorem yL(h:i<7):iJ.getD i default∈iJ:=by have:i<iJ.length:=h;refine rl (List.getD_eq_getElem?_getD) ?_;refine rl (List.getElem?_eq_getElem this) ?_;exact List.getElem_mem this
theorem sV(X:Cx w h₀ mg mb n C)(h:i<7)(hc:env.code= .ref (iJ.getD i default).2.1)(hq:env.qual++"<lambda>"=(iJ.getD i default).2.2):Aq h₀ env (iJ.getD i default):=
 ⟨yL h,hc,X.hd _ (List.mem_map.mpr ⟨_,yL h,rfl⟩),hq⟩
theorem m3(X:Cx w h₀ mg mb n C)(h:i<7)(hc:env.code= .ref (iJ.getD i default).2.1)(hq:env.qual++"<lambda>"=(iJ.getD i default).2.2)(hk:env.scope.kind= .function)
  (hl:fh k=⟨params,body,scope⟩)(hdef:defaultsOf params env=([],[]))(hcl:closureFor scope env=pure [])(hg:env.globals=mainGlobals:=by rfl)(hb:env.builtins=builtinsNs:=by rfl):aY w h₀ n env op op (.Lambda params body scope pos) (aH C (.lam k [])):=
 DM X.G ⟨hk,hg,hb⟩ (sV X h hc hq) hl hdef hcl
theorem BJ(X:Cx w h₀ mg mb n C)(h:i<7)(hc:env.code= .ref (iJ.getD i default).2.1)(hq:env.qual++"<lambda>"=(iJ.getD i default).2.2)(hk:env.scope.kind= .function)
  (hl:fh k=⟨params,body,scope⟩)(hdef:defaultsOf params env=([],[]))(hcl:closureFor scope env=pure [(nm x,c)])(hx:env.kindOf (nm x)=some .cell)(hcc:env.cells.lookup (nm x)=some c)(hg:env.globals=mainGlobals:=by rfl)(hb:env.builtins=builtinsNs:=by rfl):
  aY w h₀ n env true false (.Lambda params body scope pos) (aH C (.lam k [x])):=
 DN X.G ⟨hk,hg,hb⟩ (sV X h hc hq) hl hdef hcl hx hcc
end
theorem qW:∀{l:List (Option Nat)} {j:Nat},l[j]? =some none→((l.set j (some k)).filterMap id).Perm (k::l.filterMap id):=by
 intro l;induction l with
 |nil=>intro j h;exact no h
 |cons a l c=>
  intro j h;cases j with
  |zero=>simp at h;subst h;rfl
  |succ j=>
   have:=c (by simpa using h);clear c h;cases a with
   |none=>simpa using this
   |some b=>simp only[List.filterMap_cons,id];exact(List.Perm.cons b this).trans (List.Perm.swap ..)
theorem getD_none{owner:Array (Option Nat)}(h:(owner.getD j (some 0)).isNone=true):owner.toList[j]? =some none:=by
 rw[Array.getD_eq_getD_getElem?]at h;refine rl (Array.getElem?_toList) ?_;cases q:owner[j]? with
 |none=>rw[q]at h;simp at h
 |some v=>rw[q]at h;simp at h;rw[h]
set_option tactic.hygienic true in
theorem zJ{a:Nat}:∀{fuel i q:Nat},SetTable.layClean.free a owner fuel i q=some j→owner.toList[j]? =some none:=by
 intro fuel;induction fuel with
 |zero=>intro i q e;exact no e
 |succ n b=>
  intro i q e;unfold SetTable.layClean.free at e;split at e
  ·rename_i k c;exact one e (getD_none (by simpa using List.find?_some c))
  ·exact b e
set_option tactic.hygienic true in
theorem zI:∀{fuel i q:Nat},SetTable.layClean.free mask owner fuel i q=none→∀m,m<fuel→(owner.getD (lp mask m (i,q)).1 (some 0)).isNone=false:=by
 intro fuel;induction fuel with
 |zero=>intro i q _ m a;exact absurd a (Nat.not_lt_zero _)
 |succ n b=>
  intro i q e m a;unfold SetTable.layClean.free at e;split at e
  ·exact on e
  ·rename_i c;cases m with
   |zero=>have:=List.find?_eq_none.mp c 0 (List.mem_range.mpr (Nat.sub_pos_of_lt (Nat.lt_succ_of_le (Mj _ _))));rw[Nat.add_zero]at this;exact Bool.eq_false_iff.mpr this
   |succ m=>exact b e m (Nat.lt_of_succ_lt_succ a)
noncomputable def Taken(owner:Array (Option Nat))(k:Nat):Prop:=owner.size=32∧(owner.toList.filterMap id).Perm (List.range k)
theorem all_some{l:List (Option Nat)}(h:∀j,j<l.length→(l[j]?.getD (some 0)).isNone=false):(l.filterMap id).length=l.length:=by
 induction l with
 |nil=>rfl
 |cons a l c=>
  have e:=h 0 (by simp);cases a with
  |none=>simp at e
  |some b=>simp only[List.filterMap_cons,id,List.length_cons];rw[c λj d=>by have:=h (j+1) (by simpa using d);simpa using this]
theorem Ge(T:Taken owner k)(d:k<32)(h:Int):∃j,SetTable.layClean.free 31 owner (SetTable.turns 31) (SetTable.bits h%32) (SetTable.bits h)=some j:=by
 cases e:SetTable.layClean.free 31 owner (SetTable.turns 31) (SetTable.bits h%32) (SetTable.bits h)with
 |some j=>exact⟨j,rfl⟩
 |none=>
  have n:=zI e;have a:=all_some λj b=>by rw[Array.length_toList,T.1]at b;refine ay (CS (.inr rfl) (i:=SetTable.bits h%32) (Nat.le_of_lt_succ (Nat.mod_lt _ (by decide))) (xX h) (AO b)) λm c e=>?_;have:=n m (by unfold SetTable.turns;exact EF c);rw[e,Array.getD_eq_getD_getElem?]at this;refine rl (Array.getElem?_toList) ?_;exact this
  rw[T.2.length_eq,List.length_range,Array.length_toList,T.1]at a;exact absurd a (Nat.ne_of_lt d)
noncomputable abbrev Gw(acc:Option (Array (Option Nat)×Nat))(h:Int):Option (Array (Option Nat)×Nat):=do
 let(owner,k)←acc;let j←SetTable.layClean.free 31 owner (SetTable.turns 31) (SetTable.bits h%(31+1)) (SetTable.bits h)
 pure (owner.setIfInBounds j (some k),k+1)
theorem CL:∀(hs:List Int) (owner:Array (Option Nat)) (k:Nat),Taken owner k→k+hs.length≤32→∃owner',hs.foldl Gw (some (owner,k))=some (owner',k+hs.length)∧Taken owner' (k+hs.length):=by
 intro hs;induction hs with
 |nil=>intro owner k T _;exact⟨owner,rfl,T⟩
 |cons h hs g=>
  intro owner k T d;replace d:=List.length_cons▸d;refine aT (Ge T (Jr d) h) λj e=>?_;have i:=zJ e;have n:Taken (owner.setIfInBounds j (some k)) (k+1):=by refine⟨by refine rl Array.size_setIfInBounds ?_;exact T.1,?_⟩;exact rl Array.toList_setIfInBounds ((qW i).trans (rl List.range_succ ((List.Perm.cons k T.2).trans (List.perm_append_comm (l₁:=[k])))))
  refine ay (g _ (k+1) n (EY d)) λf l m=>⟨f,?_,by refine rl List.length_cons ?_;refine rl ((show k+(hs.length+1)=k+1+hs.length from(Nat.succ_add k hs.length).symm)) ?_;exact m⟩;simp only[List.foldl_cons,List.length_cons,show k+(hs.length+1)=k+1+hs.length from(Nat.succ_add k hs.length).symm,←l]
  congr 1
  show(some (owner,k)>>=_)=_;simp only[Option.bind_eq_bind,Option.bind_some];refine rl e ?_
  rfl
theorem uK(hs:Array Int)(h:hs.size≤32):∃owner,SetTable.layClean 31 hs=some owner∧Taken owner hs.size:=by have c:Taken (Array.replicate 32 none) 0:=⟨by rfl,by rfl⟩;refine ay (CL hs.toList _ 0 c (by simpa using h)) λo e T=>⟨o,?_,by simpa using T⟩;unfold SetTable.layClean;rw[←Array.foldl_toList];refine rl e ?_;rfl
theorem wR(owner:Array (Option Nat))(hs:owner.size=32):((List.range (31+1)).filterMap λj=>(owner.getD j none).map (λx=>(j,x))).map (λx=>x.2)=owner.toList.filterMap id∧
  (((List.range (31+1)).filterMap λj=>(owner.getD j none).map (λx=>(j,x))).map (λx=>x.1)).Pairwise (λx y=>x<y):=by
 constructor
 ·refine rl List.map_filterMap ?_;have e:owner.toList=(List.range 32).map λj=>owner.getD j none:=by
   apply List.ext_getElem
   ·trivial
   ·intro i k m;have:i<owner.size:=by simpa using k
    simp[Array.getD,this]
  refine rl e (rl List.filterMap_map ?_)
  congr 1
  funext j
  simp only[Function.comp,id];cases owner.getD j none<;>rfl
 ·refine rl List.map_filterMap ?_;have d:∀l:List Nat,l.Pairwise (λx y=>x<y)→(l.filterMap λj=>((owner.getD j none).map (λx=>(j,x))).map (λx=>x.1)).Pairwise (λx y=>x<y):=by
   intro l;induction l with
   |nil=>intro _;exact List.Pairwise.nil
   |cons a l f=>
    intro p;rw[List.pairwise_cons]at p;refine rl List.filterMap_cons ?_;cases q:owner.getD a none with
    |none=>exact f p.2
    |some v=>
     refine List.pairwise_cons.mpr ⟨λb h=>?_,f p.2⟩;refine ay (List.mem_filterMap.mp h) λc g e=>?_;have:b=c:=by
      cases q2:owner.getD c none with
      |none=>rw[q2]at e;exact no e
      |some v=>rw[q2]at e;refine one e ?_;rfl
     exact rl this (p.1 c g)
  exact d _ List.pairwise_lt_range
theorem My{l:List Nat}(h:l.Pairwise (λx y=>x<y)):xE l.toArray:=λi k b c=>by
 have a:k<l.length:=by simpa using c
 have:=List.pairwise_iff_getElem.mp h i k (AC b a) a b;simpa[Array.getD,a,show i<l.length by exact AC b a]using this
theorem z7{t:SetTable}{a:Array (Int×Value)}(h:a.size≤32):∃t' order,t.relaid (a.map (λx=>x.1)) 20=some (t',order)∧t'.mask=31∧t'.dummies=#[]∧t'.led=t.led∧t'.plain=t.plain∧t'.place.size=a.size∧xE t'.place∧order.toList.Perm (List.range a.size):=by
 refine ay (uK (a.map (λx=>x.1)) (by simpa using h)) λowner e T=>?_;replace T:=Array.size_map▸T;obtain⟨c,d⟩:=wR owner T.1;have b:SetTable.sizeAbove 20-1=31:=by decide+kernel
 unfold SetTable.relaid;refine rl b ?_;unfold SetTable.laid;refine rl e ?_;refine(fu _ _ ⟨rfl,rfl,rfl,rfl,rfl,?_,My d,?_⟩)
 ·have:=congrArg List.length c;rw[List.length_map,T.2.length_eq,List.length_range]at this;simpa using this
 ·simp only[List.toList_toArray];exact rl c T.2
noncomputable abbrev lJ(es:Array (Int×Value))(ep:Nat)(t:SetTable):Obj:={cls:=.type "set",dict:=none,data:=.set es ep t}
noncomputable def gV(es:List (Int×Value))(l:List Int):Prop:=∃ps:List (Int×Tok),es=ps.map (λp=>(hashInt p.1,.int p.1 p.2))∧ps.map (λx=>x.1)=l
structure Ec(t:SetTable)(n:Nat):Prop where
 led:t.led=true
 plain:t.plain=true
 P4:t.dummies=#[]
 PB:xE t.place
 room:(t.mask=7∧n≤4)∨(t.mask=31∧n≤18)
noncomputable def mT(w:World)(h:Heap)(a:Addr)(ms:List Int):Prop:=∃es ep t l,h.get? a=some (lJ es ep t)∧gV es.toList l∧l.Perm ms∧t.fits es.size=true∧(w.params.followText "set-order"=true∨Ec t es.size)
theorem gV.perm(p:es'.Perm es)(I:gV es l):∃l',gV es' l'∧l'.Perm l:=by
 refine ay I λps c a=>?_;clear I;subst c;subst a;have d:∃ps':List (Int×Tok),es'=ps'.map (λp=>(hashInt p.1,Value.int p.1 p.2)):=by
  refine⟨es'.map λe=>match e.2 with | .int i t=>(i,t)|_=>(0,0),?_⟩;refine rl List.map_map ?_
  conv=>lhs;rw[←List.map_id es']
  refine List.map_congr_left λe g=>ay (List.mem_map.mp (p.mem_iff.mp g)) λq h a=>?_;clear g h;subst a
  rfl
 obtain⟨ps',rfl⟩:=d;refine⟨ps'.map (λx=>x.1),⟨ps',rfl,rfl⟩,?_⟩;have:=p.map λe:Int×Value=>match e.2 with | .int i _=>i|_=>0
 rw[List.map_map,List.map_map]at this;exact this
theorem gV.Nj(I:gV es l):ElemsOf (intKind P0 w) es:=by refine ay I λps b c=>?_;clear I;subst b;refineλe d=>ay (List.mem_map.mp d) λp c a=>?_;clear d c;subst a;exact⟨⟨p.1,intKind_is _ _ _ _,rfl⟩,rfl⟩
theorem gV.mem(I:gV es l)(i:Int):i∈l↔∃e∈es,(intKind P0 w).is i e.2=true:=by
 refine ay I λps b a=>?_;clear I;subst b;subst a;constructor
 ·refineλh=>ay (List.mem_map.mp h) λp d a=>?_;subst a;exact⟨_,List.mem_map.mpr ⟨p,d,rfl⟩,intKind_is _ _ _ _⟩
 ·intro c;refine ay c λe f h=>?_;refine ay (List.mem_map.mp f) λp d a=>?_;clear f;subst a;exact rl ((intKind P0 w).inj _ _ _ h (intKind_is P0 w p.1 p.2)) (List.mem_map.mpr ⟨p,d,rfl⟩)
theorem gV.len(I:gV es l):es.length=l.length:=by refine ay I λps b a=>?_;clear I;subst b;subst a;simp
theorem Gi(j:Nat):SetTable.has #[] j=false:=rfl
theorem zP(T:Ec t es.size)(i:t.fits es.size=true)(m:es.size+1≤18):
  (layNew t es h x).2.2.1=false∧(layNew t es h x).2.1.led=true∧(layNew t es h x).2.1.plain=true∧(layNew t es h x).2.1.dummies=#[]∧xE (layNew t es h x).2.1.place∧(layNew t es h x).2.1.mask=t.mask∧(layNew t es h x).1.size=es.size+1:=by
 have b:t.place.size=es.size∧t.fill≤t.mask:=by simpa[SetTable.fits]using i
 have g:=T.room.imp And.left And.left;have hs:es.size<t.mask:=T.room.elim (λq=>q.1.symm▸Nat.lt_of_le_of_lt q.2 (by decide)) λq=>q.1.symm▸Nat.lt_of_le_of_lt q.2 (by decide);refine ay (uw T.P4 T.PB g (EG b hs) h) λj k f=>?_;unfold layNew;refine rl k ?_;dsimp only[SetTable.put];rw[T.P4,Gi];have l:(if false=true then SetTable.eraseAt #[] (SetTable.below #[] j)else#[]:Array Nat)=#[]:=rfl;refine rl l ?_;have d:(SetTable.insertAt es (SetTable.below t.place j) (h,x)).size=es.size+1:=iD;have e:(SetTable.insertAt t.place (SetTable.below t.place j) j).size=es.size+1:=by rw[iD,b.1]
 have c:SetTable.fits {t with place:=SetTable.insertAt t.place (SetTable.below t.place j) j,dummies:=#[]} (SetTable.insertAt es (SetTable.below t.place j) (h,x)).size=true:=by simp only[SetTable.fits,SetTable.fill,d,e,beq_self_eq_true,Bool.true_and,decide_eq_true_eq];exact vV hs
 unfold SetTable.orStandIn;exact rl (if_pos c) (⟨rfl,T.led,T.plain,rfl,xe T.PB f,rfl,d⟩)
theorem u6(j:es.size=5)(p:t.led=true)(o:t.plain=true):Ec (relayAll t es (SetTable.grown es.size)).2.1 (relayAll t es (SetTable.grown es.size)).1.size:=by
 have b:=relayAll_perm t es (SetTable.grown es.size);have f:(relayAll t es (SetTable.grown es.size)).1.size=es.size:=by rw[←Array.length_toList,b.length_eq,Array.length_toList]
 refine rl f ?_;have q:SetTable.grown es.size=20:=by refine rl j ?_;rfl
 refine rl q ?_;refine ML (z7 (t:=t) (Fe j)) λn a e m l y v u r k=>?_;unfold relayAll;refine rl e ?_;dsimp only;have d:coversAll a es.size=true:=by unfold coversAll;exact List.isPerm_iff.mpr k
 have g:(a.filterMap (λx=>es[x]?)).size=es.size:=by
  have h:((a.toList.filterMap λi=>es[i]?)).Perm ((List.range es.size).filterMap λi=>es[i]?):=k.filterMap _;rw[filterMap_getElem?_range]at h;have:=h.length_eq;rw[Array.length_toList]at this;have z:(a.filterMap (λx=>es[x]?)).toList.length=es.size:=by exact rl Array.toList_filterMap this
  rw[←z,Array.length_toList]
 have c:n.fits (a.filterMap (λx=>es[x]?)).size=true:=by
  simp only[SetTable.fits,SetTable.fill,g,u,l,Array.size_empty,Nat.add_zero,beq_self_eq_true,Bool.true_and,decide_eq_true_eq,m]
  lia
 refine rl d (rl c ?_);exact⟨y.trans p,v.trans o,l,r,.inr ⟨m,by lia⟩⟩
section
variable{w:World}{A:Around}{E:Value→Shared→Prop}{s:Shared}
theorem rF(b:s.heap.get? a=some (lJ es ep t))(c:es'.size<4096)
  (q:∀h',Heap.SameBut a s.heap h'→h'.get? a=some (lJ es' (ep+1) t')→Q () {s with heap:=h'}):wpAny (model P0 w) A (storeSet a es' t') Q E s:=by
 refine wpAny_storeSet_of b rfl (q _ (Heap.SameBut.update s.heap a (Obj.putSet es' t')) ?_) (fits_of_scanBound c);have:=Heap.get?_update_self (Obj.putSet es' t') b (by refine rl (putSet_of es' t' rfl) ?_;rfl);rw[putSet_of es' t' rfl]at this;exact this
set_option tactic.hygienic true in
theorem tU{g:Bool→PySem.Sem Unit}(O:∀(b:Bool) (d:Shared) (Q':Unit→Shared→Prop),Q' () d→wpAny (model P0 w) A (g b) Q' E d)
  (N:s.heap.get? a=some (lJ es ep t))(I:gV es1.toList l)(p:l.Perm ms)(y:t2.fits es1.size=true)(F:es1.size<4096)
  (G:w.params.followText "set-order"=true∨(wd=false∧t2.led=true∧t2.plain=true∧t2.dummies=#[]∧xE t2.place∧((t2.mask=7∧es1.size≤5)∨(t2.mask=31∧es1.size≤18))))
  (q:∀h',Heap.SameBut a s.heap h'→mT w h' a ms→R (some true) {s with heap:=h'}):
  wpAny (model P0 w) A (do
    storeSet a es1 t2
    if(!wd&&t2.tooFull)=true then do
      g (relayAll t2 es1 (SetTable.grown es1.size)).2.2
      storeSet a (relayAll t2 es1 (SetTable.grown es1.size)).1 (relayAll t2 es1 (SetTable.grown es1.size)).2.1
      pure (some true)
     else pure (some true)) R E s:=by
 refine wpAny_bind (rF N F λk i K=>?_);split
 ·rename_i f;have D:=relayAll_perm t2 es1 (SetTable.grown es1.size);have x:=relayAll_fits t2 es1 (SetTable.grown es1.size);have z:=G.imp id λu=>HL u λJ k j m H C=>by
   have c:t2.tooFull=true:=by rw[Bool.and_eq_true]at f;exact f.2
   have e:t2.place.size=es1.size∧t2.fill≤t2.mask:=by simpa[SetTable.fits]using y
   have B:es1.size=5:=by unfold SetTable.tooFull SetTable.fill at c;rw[m,e.1]at c;have:=of_decide_eq_true c;simp only[Array.size_empty,Nat.add_zero]at this;rcases C with⟨h,n⟩|⟨h,n⟩<;>replace this:=h▸this<;>lia
   exact u6 B k j
  have v:(relayAll t2 es1 (SetTable.grown es1.size)).1.size=es1.size:=by rw[←Array.length_toList,D.length_eq,Array.length_toList]
  refine ay (gV.perm D I) λM Q L=>wpAny_bind (O _ _ _ ?_);refine wpAny_bind (rF K (by refine rl v ?_;exact F) λj r P=>?_);exact wpAny_pure (q j (i.trans r) (jC _ _ _ M ⟨P,Q,L.trans p,x,z⟩))
 ·rename_i f;refine wpAny_pure (q k i (jC _ _ _ l ⟨K,I,p,y,G.imp id λu=>HL u λJ k j m H C=>⟨k,j,m,H,?_⟩⟩));have e:t2.place.size=es1.size∧t2.fill≤t2.mask:=by simpa[SetTable.fits]using y
  refine Or.elim C (λo=>?_) λo=>?_
  ·obtain⟨h,n⟩:=o;refine .inl ⟨h,?_⟩;rw[J,Bool.not_false,Bool.true_and]at f;unfold SetTable.tooFull SetTable.fill at f;rw[m,e.1,h]at f;simp only[Array.size_empty,Nat.add_zero,decide_eq_true_eq]at f
   lia
  ·obtain⟨h,n⟩:=o;exact .inr ⟨h,n⟩
theorem GQ{g:List Int}{i:Int}(S:mT w s.heap a g)(hb:g.length+1<4096)(O:i∉g→g.length+1≤18)
  (q:∀h',Heap.SameBut a s.heap h'→mT w h' a (if i∈g then g else i::g)→Q (!decide (i∈g)) {s with heap:=h'}):
  wpAny (model P0 w) A (setAddHashed a (.int i F) (hashInt i)) Q E s:=by
 refine D8 S λn ep t l K I p M U=>?_;have B:ElemsOf (intKind P0 w) n.toList:=I.Nj;have u:n.size=g.length:=by rw[←Array.length_toList,I.len,p.length_eq]
 unfold setAddHashed setAddHashedIn;refine wpAny_holding (wpAny_bind (wpAny_setState_of K rfl M ?_));dsimp only;refine rl (byScan_of rfl (by refine rl u ?_;exact Nat.lt_of_succ_lt hb) B) ?_;simp only[↓reduceIte];unfold setAddByScan;refine wpAny_bind ?_;refine wpAny_bind (wpAny_rule ?_);refine wpAny_bind (wpAny_setScan_of (intKind_is _ _ _ _) K rfl M B ?_);have W:i∈g↔∃e∈n.toList,(intKind P0 w).is i e.2=true:=by rw[←I.mem,p.mem_iff]
 cases hr:List.findIdx? (λe=>(intKind P0 w).is i e.2) n.toList with
 |some j=>refine ay (List.findIdx?_eq_some_iff_getElem.mp hr) λhj V X=>?_;have G:=W.mpr ⟨n.toList[j],List.getElem_mem hj,V⟩;refine wpAny_pure (wpAny_pure ?_);have:=q s.heap (Heap.SameBut.refl a s.heap) (rl (if_pos G) (jC n ep t l ⟨K,I,p,M,U⟩));rw[decide_eq_true G]at this;exact this
 |none=>
  have G:i∉g:=λh=>by refine ay (W.mp h) λe he hp=>?_;have:=List.findIdx?_eq_none_iff.mp hr e he;rw[hp]at this;exact tf this
  have o:=O G;have z:∀(b:Bool) (k:Shared) (Q':Unit→Shared→Prop),Q' () k→wpAny (model P0 w) A (match b with |true=>rule "set.scan.the-table-gave-way"|false=>pure ()) Q' E k:=
   λb k Q' Z=>by cases b<;>first|exact wpAny_pure Z|exact wpAny_rule Z
  have c:=layNew_perm t n (hashInt i) (.int i F);have d:=layNew_fits t n (hashInt i) (.int i F);have y:=U.imp id λT=>zP (h:=hashInt i) (x:=.int i F) T M (rl u o);have v:=U.imp id (λx=>x.room);generalize layNew t n (hashInt i) (.int i F)=L at c d y⊢;clear S hb O M U B W hr;obtain⟨C,D,wd,RS⟩:=L;dsimp only at c d y⊢;have I0:gV (n.push (hashInt i,.int i F)).toList (l++[i]):=by exact ay I λps e1 e2=>⟨ps++[(i,F)],by refine rl Array.toList_push (rl e1 ?_);simp,by refine rr e2 ?_;simp⟩
  refine ay (gV.perm c I0) λl1 I1 p1=>?_;have Y:=p1.trans (List.perm_append_comm.trans (p.cons i));have J:C.size=n.size+1:=by rw[←Array.length_toList,c.length_eq,Array.length_toList,Array.size_push]
  have P:∀h',Heap.SameBut a s.heap h'→mT w h' a (i::g)→Q true {s with heap:=h'}:=λh' H R=>by have:=q h' H (rl (if_neg G) R);rw[decide_eq_false G]at this;exact this
  have N:w.params.followText "set-order"=true∨(wd=false∧D.led=true∧D.plain=true∧D.dummies=#[]∧xE D.place∧((D.mask=7∧C.size≤5)∨(D.mask=31∧C.size≤18))):=by
   refine Or.elim y (λh=>?_) λX=>?_
   ·exact .inl h
   ·refine HM X λh1 h2 h3 h4 h5 h6 h7=>?_;rcases v with h|h|h
    ·exact .inl h
    ·exact .inr ⟨h1,h2,h3,h4,h5,.inl ⟨h6.trans h.1,IL J h⟩⟩
    ·exact .inr ⟨h1,h2,h3,h4,h5,.inr ⟨h6.trans h.1,Jp u o J⟩⟩
  refine wpAny_bind (z _ _ _ ?_);split
  ·exact wpAny_bind (rl (hashByValue_scannable 8 rfl) (wpAny_pure (tU z K I1 Y d (by lia) N λh' H R=>wpAny_pure (P h' H R))))
  ·refine wpAny_bind (wpAny_pure ?_);simp only[↓reduceIte];exact tU z K I1 Y d (by lia) N λh' H R=>wpAny_pure (P h' H R)
end
theorem uT:∀{ms l:List Int},ms.Nodup→(∀k∈ms,k∈l)→ms.length≤l.length:=by
 intro ms;induction ms with
 |nil=>intro l _ _;exact Nat.zero_le _
 |cons a ms f=>intro l b h;rw[List.nodup_cons]at b;have d:=h a (.head _);have:=f b.2 λk c=>(List.mem_erase_of_ne (λ(e:k=a)=>b.1 (e▸c))).mpr (h k (.tail _ c));rw[List.length_erase_of_mem d]at this;have q:=List.length_pos_of_mem d;exact rl List.length_cons (Nat.add_le_of_le_sub q this)
set_option tactic.hygienic true in
theorem fS:∀{l:List Int},k∈fJ l↔k∈l:=by
 intro l;induction l with
 |nil=>exact Iff.rfl
 |cons a l b=>
  unfold fJ;split
  ·rename_i h;rw[b,List.mem_cons];exact⟨.inr,λq=>q.elim (λe=>e▸List.mem_of_elem_eq_true h) id⟩
  ·rw[List.mem_cons,List.mem_cons,b]
set_option tactic.hygienic true in
theorem jW:∀{l:List Int},(fJ l).Nodup:=by
 intro l;induction l with
 |nil=>exact List.nodup_nil
 |cons a l b=>
  unfold fJ;split
  ·exact b
  ·rename_i h;refine List.nodup_cons.mpr ⟨λq=>?_,b⟩;rw[List.elem_eq_true_of_mem (fS.mp q)]at h;exact tf h
section
variable{w:World}{A:Around}{E:Value→Shared→Prop}{s:Shared}{R:Result→Shared→Prop}{I:Addr}{fp wr:List Addr}{n:Nat}{P:Nat→Value→Prop}{St:Nat→Heap→Prop}
theorem mT.keep{a:Addr}{b:List Int}(S:mT w h a b)(k:∀o,h.get? a=some o→h'.get? a=some o):mT w h' a b:=
 let⟨es,ep,t,l,e,r⟩:=S;(jC es ep t l ⟨k _ e,r⟩)
set_option tactic.hygienic true in
theorem DB(W:Walks P0 w A.in1 I fp wr n P St)(S:Addr)(y:S∉fp){ns:List Int}(V:ns.length=n)(hv:∀i v,P i v→∃t,v= .int (ns.getD i 0) t)(D:n+1<4096)(B:(fJ ns).length≤18)(k:Nat):
  ∀(i:Nat) (h:Heap) (tk:Nat) (d:List Int),n-i=k→i≤n→St i h→mT w h S d→d.Nodup→(∀x,x∈d↔x∈ns.take i)→
   (∀h' tk' NP,mT w h' S NP→NP.Nodup→(∀x,x∈NP↔x∈ns)→(∀b o,b≠S→b∉wr→h.get? b=some o→h'.get? b=some o)→R (.ok (.ret .none)) {s with heap:=h',toks:=tk'})→
   codeAny (model P0 w) A (.builtin "set.update.loop" ⟨[.ref S,.ref I],[]⟩) R {s with heap:=h,toks:=tk}:=by
 have u:S∉wr:=λh=>y (W.sub _ h);induction k with
 |zero=>
  intro i h tk d C Q st T l m q;have j:i=n:=by exact AU C Q
  subst j;refine codeAny_builtin PyProof.Rows.F.entry_set_update_loop ?_;refine rl (Around.under_plainId PyProof.Rows.F.plain_set_update_loop _) ?_;refine wpAny_bind (W.done {s with heap:=h,toks:=tk} _ _ st λh' tk' r=>?_);exact wpAny_pure (q h' tk' d (T.keep λo e=>r _ _ u e) l (λx=>by simp only[m,←V,List.take_length]) λb o zz D e=>r b o D e)
 |succ k ih=>
  intro i h tk d C Q st T l m q;have g:i<n:=by exact A0 C
  refine codeAny_builtin PyProof.Rows.F.entry_set_update_loop ?_;refine rl (Around.under_plainId PyProof.Rows.F.plain_set_update_loop _) ?_;refine wpAny_bind (W.item i {s with heap:=h,toks:=tk} _ _ g st λv Z G X H r=>?_);refine aT (hv i v X) λt F=>?_;clear Q st X;subst F;have S1:=T.keep λo e=>r _ _ u e;refine wpAny_bind (wpAny_holding ?_);unfold setAdd;refine wpAny_holding ?_;refine wpAny_bind ((intKind P0 w).pyHash (intKind_is _ _ _ _) ?_);have O:i<ns.length:=by exact sd V g
  have ea:ns[i]? =some (ns.getD i 0):=by simp[List.getD_eq_getElem?_getD,List.getElem?_eq_getElem O]
  have p:∀x∈d,x∈fJ ns:=λx hx=>fS.mpr (List.mem_of_mem_take ((m x).mp hx));have M:=Nat.le_trans (uT l p) B;refine GQ (s:={s with heap:=Z,toks:=G+1}) S1 (E2 M) (λf=>?_) λY U S2=>?_
  ·have:=uT (List.nodup_cons.mpr ⟨f,l⟩) (List.forall_mem_cons.mpr ⟨fS.mpr (List.mem_of_getElem? ea),p⟩);rw[List.length_cons]at this;exact Kc B this
  ·refine wpAny_pure ⟨plainId_quiet PyProof.Rows.F.plain_set_update_loop _,?_⟩;have K:∀b o,b≠S→b∉wr→h.get? b=some o→Y.get? b=some o:=λb o c a e=>by exact rl (U.2 b c) (r b o a e)
   refine ih (i+1) Y _ _ (Bq C) g (W.frame _ Z _ H λb D o e=>?_) S2 ?_ (λx=>?_) λh' tk' NP S' J N L=>q h' tk' NP S' J N λb o c a e=>L b o c a (K b o c a e)
   ·exact rl (U.2 b (λh:b=S=>y (h▸D))) e
   ·split
    ·exact l
    ·rename_i f;exact List.nodup_cons.mpr ⟨f,l⟩
   ·refine rl List.take_add_one (rl ea ?_);rw[Option.toList_some,List.mem_append,List.mem_singleton];split
    ·rename_i j;rw[m];exact⟨.inl,λz=>z.elim id λe=>(m x).mp (e▸j)⟩
    ·rw[List.mem_cons,m];exact⟨λz=>z.elim .inr .inl,λz=>z.elim .inr .inl⟩
theorem DC(a:Value)
  (h:Q₁ (.ref s.heap.objs.size) {s with heap:=s.heap.push (lJ #[] 0 (.fresh 0 0 (!w.params.followText "set-order")))}):
  codeAny (model P0 w) A (.call (.builtin "set.__new__") ⟨[.type "set",a],[]⟩) (wants Q₁ E) s:=by
 refine codeAny_of_tree ?_;refine wpAny_bind (wpAny_of_eq (PySem.F.newCall_set_1 a) (wpAny_pure ⟨plainId_quiet PySem.F.plain_set_new _,codeAny_builtin PySem.F.entry_set_new ?_⟩));refine rl (Around.under_plainId PySem.F.plain_set_new _) ?_;unfold Builtin.«set.__new__» Builtin.Frozenset.newClass;have b:=sub_set_self;obtain⟨e,g,d,tk,c⟩:=s
 wp_walk
 refine wpAny_askSetting (wpAny_pure ?_);dsimp only[newObj];refine wpAny_bind (wpAny_alloc (wpAny_pure ?_));exact wpAny_pure h
end
section
variable{w:World}{A:Around}{E:Value→Shared→Prop}{s:Shared}
set_option maxHeartbeats 3200000 in
theorem zj{l:Addr}{items:Array Value}{ns:List Int}{Q:Value→Shared→Prop}(hh:A.handled=none)(hl:s.heap.IsList l items)(hi:IntsAre items.toList ns)(hb:items.size<64)(RT:(fJ ns).length≤18)
  (q:∀h' tk ms,mT w h' s.heap.objs.size ms→ms.Nodup→(∀k,k∈ms↔k∈ns)→(∀b o,s.heap.get? b=some o→h'.get? b=some o)→Q (.ref s.heap.objs.size) {s with heap:=h',toks:=tk}):
  wpAny (model P0 w) A (call (.type "set") [.ref l]) Q E s:=by
 obtain⟨c,tl,R6⟩:=PySem.F.called_set.mro;have hmade:=PySem.F.called_set.made;have hsub:=PySem.F.called_set.sub;refine wpAny_call (codeAny_of_tree ?_);show wpAny _ _ (callAny (.type "set") _) _ _ _;refine wpAny_pure ⟨Code.quiet_builtin _ (by decide+kernel),codeAny_builtin PySem.F.entry_type_call ?_⟩;rw[Around.under_plain (weight_type_call_type "set" [.ref l] []) rfl];have h1:=PySem.F.called_set.notType;have h2:=PySem.F.called_set.canCreate;have hct:=PySem.F.typeCall_set_1 (.ref l);repeat (any_goals (first|assumption|wp_step))
 generalize Og:lJ #[] 0 (.fresh 0 0 (!w.params.followText "set-order"))=o0;refine codeAny_mono (DC (.ref l) (E:=E) (Q₁:=λobj s₁=>obj= .ref s.heap.objs.size∧s₁={s with heap:=s.heap.push o0}) ⟨rfl,by rw[Og]⟩) λr s₁ hr=>?_;cases r with
 |error e=>exact hr
 |ok fl=>
  cases fl with
  |ret obj=>
   obtain⟨rfl,rfl⟩:=hr;have hS:(s.heap.push o0).get? s.heap.objs.size=some o0:=Heap.get?_push_size _ (by subst Og;rfl);have hT:Shared.TypeIs {s with heap:=s.heap.push o0} (.ref s.heap.objs.size) "set":=⟨_,hS,by subst Og;rfl⟩;have hli:=PySem.F.called_set.init.lookup;have hbi:=PySem.F.called_set.init.bind (.ref s.heap.objs.size);repeat (any_goals (first|assumption|wp_step))
   refine codeAny_mono (codeAny_call_builtin (R:=wants (λr s₂=>r= .none∧∃h' tk ms,s₂={s with heap:=h',toks:=tk}∧mT w h' s.heap.objs.size ms∧ms.Nodup∧(∀k,k∈ms↔k∈ns)∧
     (∀b o,s.heap.get? b=some o→h'.get? b=some o)) E) PySem.F.called_set.init.plain PySem.F.entry_set_init (check_set_init_1 hT ?_)) λr₂ s₂ Cu=>?_
   ·obtain⟨ol,QE,hcl,nl,hdl⟩:=hl;obtain⟨Su,NT,QK,Mr⟩:=ol;simp only at hcl hdl;subst hcl;subst hdl;have Pg:(s.heap.push o0).get? l=some {cls:=.type "list",dict:=NT,data:=.seq items nl,slots:=Mr}:=Heap.get?_push_of_some _ QE;have Sh:=PySem.F.sub_list_set;have Sf:=PySem.F.sub_list_frozenset;have hne:(Value.type "list"==Value.type "dict")=false:=by decide
    have hl1:(s.heap.push o0).IsList l items:=⟨_,Pg,rfl,nl,rfl⟩;unfold Builtin.«set.__init__» noKeywords Builtin.Frozenset.updateFrom;generalize RW:pyIter=PI;subst Og
    wp_walk
    subst RW;refine wpAny_pyIter_list hl1 ?_;refine wpAny_bind (wpAny_runValue ?_);have hlS:l<s.heap.objs.size:=Heap.lt_size QE;have R0:A.in1.in1.in1.handled=none:=by simp[hh]
    have sz:(s.heap.push (lJ #[] 0 (.fresh 0 0 (!w.params.followText "set-order")))).objs.size=s.heap.objs.size+1:=Heap.size_push ..;have Pf:l≠(s.heap.push (lJ #[] 0 (.fresh 0 0 (!w.params.followText "set-order")))).objs.size:=by rw[sz];exact Nat.ne_of_lt (Nat.lt_succ_of_lt hlS)
    have hSf:s.heap.objs.size∉[(s.heap.push (lJ #[] 0 (.fresh 0 0 (!w.params.followText "set-order")))).objs.size,l]:=by rw[sz];simp only[List.mem_cons,List.not_mem_nil,or_false,not_or];exact⟨Nat.ne_of_lt (Nat.lt_succ_self _),Nat.ne_of_gt hlS⟩
    have hlen:ns.length=items.size:=by rw[←IntsAre.length hi,Array.length_toList]
    have S0:mT w (s.heap.push (lJ #[] 0 (.fresh 0 0 (!w.params.followText "set-order")))) s.heap.objs.size []:=
     ⟨#[],0,_,[],hS,⟨[],rfl,rfl⟩,.nil,rfl,by
      cases q:w.params.followText "set-order" with
      |true=>exact .inl rfl
      |false=>exact .inr ⟨rfl,rfl,rfl,(λi k zz hk=>absurd hk (Nat.not_lt_zero _)),.inl ⟨rfl,Nat.zero_le _⟩⟩⟩
    refine DB (Walks.list R0 _ l Pf items) s.heap.objs.size hSf hlen (λi v hv=>PyProof.Rows.IntsAre.int_at hi i v (by rw[Array.getElem?_toList];exact hv)) (by lia) RT (items.size-0) 0 _ _ [] (by lia) (Nat.zero_le _)
     ⟨⟨_,Heap.get?_push_size _ rfl,rfl,rfl⟩,(hl1.push _)⟩ (S0.keep λo e=>Heap.get?_push_of_some _ e) List.nodup_nil (λx=>by simp) λh' tk' ms S' nd hm kp=>?_
    show wpAny _ _ _ _ _ _;refine wpAny_pure ?_;show wpAny _ _ (ret Value.none) _ _ _;refine wpAny_pure ⟨rfl,h',tk',ms,rfl,S',nd,hm,λb o e=>?_⟩;have Pc:=Heap.lt_size e;refine kp b o (Nat.ne_of_lt Pc) (λz=>?_) (Heap.get?_push_of_some _ (Heap.get?_push_of_some _ e));rw[List.mem_singleton.mp z,sz]at Pc;exact absurd Pc (Nat.not_lt_of_le (Nat.le_succ _))
   ·cases r₂ with
    |error e=>exact Cu
    |ok Nr=>
     cases Nr with
     |ret r=>
      obtain⟨rfl,h',tk,ms,rfl,S',nd,hm,hk'⟩:=Cu;repeat (any_goals (first|assumption|wp_step))
      exact q _ _ _ S' nd hm hk'
     |_=>exact Cu.elim
  |_=>exact hr.elim
end
theorem dF:Slot "set_iterator" "__next__" "set_iterator.__next__":=
 .of (owner:="set_iterator") (n:="__next__") (by rw[typeLookup_type,builtinLookup_eq_fast];rfl) (by decide+kernel) (by decide+kernel) (by decide+kernel)
  (by first|exact .inl (by decide+kernel)|exact .inr (by decide+kernel)) (by rw[isSubtype_type];rfl)
theorem k7:Slot "set_iterator" "__iter__" "set_iterator.__iter__":=
 .of (owner:="set_iterator") (n:="__iter__") (by rw[typeLookup_type,builtinLookup_eq_fast];rfl) (by decide+kernel) (by decide+kernel) (by decide+kernel)
  (by first|exact .inl (by decide+kernel)|exact .inr (by decide+kernel)) (by rw[isSubtype_type];rfl)
theorem rG:Manifest.owners.lookup (String.ofList ['r','o','t','a','r','e','t','i','_','t','e','s'].reverse)=some Manifest.sig_set_iterator:=by rfl
theorem k6(a:Value):argsOk "set_iterator.__next__" ⟨[a],[]⟩:=by unfold argsOk;refine rl (signature?_of (n:=['_','_','t','x','e','n','_','_']) (by rfl) rG) ?_;rfl
theorem q3(a:Value):argsOk "set_iterator.__iter__" ⟨[a],[]⟩:=by unfold argsOk;refine rl (signature?_of (n:=['_','_','r','e','t','i','_','_']) (by rfl) rG) ?_;rfl
theorem j4:entryFor table "set_iterator.__next__"=some Builtin.«set_iterator.__next__»:=entryFor_of_tree (by kernel_rfl)
theorem qu:entryFor table "set_iterator.__iter__"=some Builtin.«dict_keyiterator.__iter__»:=
 entryFor_alias (id':="dict_keyiterator.__iter__") (by rfl) rfl (by decide+kernel) (by rfl)
theorem qt:entryFor table "set.__iter__"=some Builtin.«frozenset.__iter__»:=
 entryFor_alias (id':="frozenset.__iter__") (by rfl) rfl (by decide+kernel) (by rfl)
theorem wB:∀{l:List α} {i:Nat} (h:i<l.length),(l[i]::l.eraseIdx i).Perm l:=by
 intro l;induction l with
 |nil=>intro i h;exact absurd h (Nat.not_lt_zero _)
 |cons a l b=>
  intro i h;cases i with
  |zero=>exact .refl _
  |succ i=>exact(List.Perm.swap ..).trans ((b (Nat.lt_of_succ_lt_succ h)).cons a)
theorem GD(c:Nat→Nat):∀(fuel k:Nat) (a:List α) (b:Array α),a.length=fuel→(pickOrder.go c fuel k a b).toList.Perm (b.toList++a):=by
 intro fuel;induction fuel with
 |zero=>intro k a b h;rw[List.length_eq_zero_iff]at h;subst h;simp[pickOrder.go]
 |succ n e=>intro k a b h;have d:c k%a.length<a.length:=Nat.mod_lt _ (Jx h);unfold pickOrder.go;refine rl (List.getElem?_eq_getElem d) ?_;refine(e _ _ _ (by refine rl (List.length_eraseIdx_of_lt d) ?_;exact AK h)).trans ?_;rw[Array.toList_push,List.append_assoc];exact List.Perm.append_left _ (wB d)
theorem z4(a:Nat→Nat)(xs:Array α):(pickOrder a xs).toList.Perm xs.toList:=by have:=GD a xs.size 0 xs.toList #[] (by rfl);simpa[pickOrder]using this
noncomputable def gy(w:World)(a:Addr)(ep:Nat)(es:Array (Int×Value)):Array (Int×Value):=match w.params.followText "set-order" with
 |true=>pickOrder (w.params.setOrder a ep) es
 |false=>es
theorem jk(w:World)(a:Addr)(c:Nat)(b:Array (Int×Value)):(gy w a c b).toList.Perm b.toList:=by
 unfold gy;split
 ·exact z4 _ _
 ·exact .refl _
noncomputable def slotAt(t:SetTable):Nat→Nat
 |0=>0
 |i+1=>t.place.getD i 0+1
theorem v8(R:xE t.place)(a:t.place.size=n)(b:i≤n):SetTable.below t.place (slotAt t i)=i:=by
 refine bR (lj R (slotAt t i)) λf d c=>?_;rcases Nat.lt_trichotomy (SetTable.below t.place (slotAt t i)) i with q|q|q
 ·have:=c _ (Nat.le_refl _) (Li a b q);clear c;cases i with
  |zero=>exact Fb q
  |succ i=>
   have le:t.place.getD (SetTable.below t.place (slotAt t (i+1))) 0≤t.place.getD i 0:=by
    refine Or.elim (Nat.lt_or_ge (SetTable.below t.place (slotAt t (i+1))) i) (λz=>?_) λz=>?_
    ·exact Nat.le_of_lt (R _ _ z (EL a b))
    ·exact rl (Et q z) (Nat.le_refl _)
   have e:slotAt t (i+1)=t.place.getD i 0+1:=rfl;exact KC this le e
 ·exact q
 ·have:=d i q;clear a b d c;cases i with
  |zero=>exact absurd this (Nat.not_lt_zero _)
  |succ i=>exact absurd (R i (i+1) (Nat.lt_succ_self _) (KA f q)) (Nat.not_lt.mpr (Nat.le_of_lt_succ this))
section
variable{w:World}{A:Around}{E:Value→Shared→Prop}{s:Shared}
noncomputable abbrev QH(slot i:Nat)(a:Addr)(n ep:Nat):Obj:={cls:=.type "set_iterator",data:=.fields #[.int slot 0,.int i 0,.ref a,.int n 0,.int ep 0]}
theorem lM(h:Q (w.params.followText "set-order") s):wpAny (model P0 w) A setsByText Q E s:=by unfold setsByText;exact wpAny_bind (wpAny_askSetting (wpAny_pure h))
theorem DE(c:s.heap.get? a=some (lJ es ep t))(d:t.fits es.size=true)(b:w.params.followText "set-order"=true)
  (h:Q (gy w a ep es) s):wpAny (model P0 w) A (setWalk a) Q E s:=by
 unfold setWalk;refine wpAny_bind (wpAny_setState_of c rfl d ?_);refine wpAny_bind (lM ?_);refine rl (if_pos b) ?_;refine wpAny_bind (wpAny_askSetting (wpAny_pure ?_));have e:gy w a ep es=pickOrder (w.params.setOrder a ep) es:=by unfold gy;rw[b]
 have h':=e▸h;exact h'
theorem ve(j:s.heap.get? a=some (lJ es ep t))(f:t.fits es.size=true)
  (m:w.params.followText "set-order"=true∨(Ec t es.size∧slot=slotAt t i))(o:i≤es.size)
  (l:∀e nx,(gy w a ep es)[i]? =some e→(w.params.followText "set-order"=true∨(Ec t es.size∧nx=slotAt t (i+1)))→Q (some (e.2,nx)) s)(k:es.size≤i→Q none s):wpAny (model P0 w) A (setNext a slot i ep) Q E s:=by
 have b:(gy w a ep es).size=es.size:=by rw[←Array.length_toList,(jk w a ep es).length_eq,Array.length_toList]
 unfold setNext;refine wpAny_bind (wpAny_setState_of j rfl f ?_);refine wpAny_bind (lM ?_);cases hb:w.params.followText "set-order" with
 |true=>
  refine rl (if_pos rfl) (rl (if_neg (by simp)) ?_);refine wpAny_bind (DE j f hb ?_);refine wpAny_pure ?_;refine Or.elim (Nat.lt_or_ge i es.size) (λz=>?_) λz=>?_
  ·refine rl (Array.getElem?_eq_getElem (Nat.lt_of_lt_of_eq z b.symm)) ?_;exact l _ slot (Array.getElem?_eq_getElem (Nat.lt_of_lt_of_eq z b.symm)) (.inl hb)
  ·refine rl (Array.getElem?_eq_none (Ek b z)) ?_;exact k z
 |false=>
  have d:=m.elim (λh=>by rw[hb]at h;exact ft h) id;refine a9 d λT g=>?_;clear j m b d;subst g;have c:t.place.size=es.size:=by rw[SetTable.fits,Bool.and_eq_true,beq_iff_eq]at f;exact f.1
  refine rl (if_neg (by simp)) ?_;have p:(!t.plain&&decide (es.size>1))=false:=by refine rl T.plain ?_;rfl
  have n:(!t.led&& !es.isEmpty)=false:=by refine rl T.led ?_;rfl
  show wpAny _ _ (if(!t.plain&&decide (es.size>1))=true then _ else _) _ _ _;refine rl (if_neg (by refine rl p ?_;exact Bool.false_ne_true)) ?_;refine wpAny_bind ?_;show wpAny _ _ (if(!t.led&& !es.isEmpty)=true then _ else pure ()) _ _ _;refine rl (if_neg (by refine rl n ?_;exact Bool.false_ne_true)) ?_;refine wpAny_pure ?_;refine rl (v8 T.PB c o) ?_;refine wpAny_pure ?_;have q:gy w a ep es=es:=by unfold gy;rw[hb]
  refine Or.elim (Nat.lt_or_ge i es.size) (λz=>?_) λz=>?_
  ·refine rl (Array.getElem?_eq_getElem z) ?_;refine rl (Array.getElem?_eq_getElem (Nat.lt_of_lt_of_eq z c.symm)) ?_;have r:t.place.getD i 0=t.place[i]'(sd c z):=by simp[Array.getD,show i<t.place.size from Nat.lt_of_lt_of_eq z c.symm]
   exact l es[i] (t.place[i]'(sd c z)+1) (rl q (Array.getElem?_eq_getElem z)) (.inr ⟨T,by show _=t.place.getD i 0+1;rw[r]⟩)
  ·refine rl (Array.getElem?_eq_none z) ?_;exact k z
end
section
variable{w:World}{A:Around}{E:Value→Shared→Prop}{s:Shared}
theorem DA{a:Addr}(c:s.heap.get? a=some (lJ es ep t))(d:t.fits es.size=true)(g:w.params.followText "set-order"=true∨Ec t es.size)
  (q:Q (.ref s.heap.objs.size) {s with heap:=s.heap.push (QH 0 0 a es.size ep)}):wpAny (model P0 w) A (pyIter (.ref a)) Q E s:=by
 have b:s.TypeIs (.ref a) "set":=⟨_,c,rfl⟩;refine wpAny_pyIter_slot b PySem.F.slot_set_iter (wpAny_call_entry PySem.F.slot_set_iter b qt ?_ (PySem.F.args_set_iter_1 _));unfold Builtin.«frozenset.__iter__» Builtin.Frozenset.slot0 slotArgs;simp only[List.isEmpty_nil,Bool.not_true,Bool.false_eq_true,↓reduceIte,bind_assoc,List.length_nil,bne_self_eq_false];unfold Builtin.Frozenset.addrOf Builtin.Frozenset.sizeOf;refine wpAny_bind (wpAny_pure ?_)
 try skip
 refine wpAny_bind (wpAny_pure ?_);refine wpAny_bind (wpAny_bind (wpAny_setEntries_of c rfl d (wpAny_pure ?_)));have f:∀{Q':Bool→Shared→Prop},Q' false s→wpAny (model P0 w) A.in1 (setDrawn a) Q' E s:=λh=>by
  unfold setDrawn;refine wpAny_bind (wpAny_setState_of c rfl d ?_);refine wpAny_bind (lM ?_);refine wpAny_pure ?_;have e:(!w.params.followText "set-order"&&(!t.plain&&decide (es.size>1)))=false:=by
   refine Or.elim g (λh=>?_) λh=>?_
   ·refine rl h ?_;rfl
   ·refine rl h.plain ?_;simp
  have i:=e▸h;exact i
 refine wpAny_bind (f ?_);refine rl (if_neg (by decide)) ?_;refine wpAny_bind (wpAny_pure ?_);refine wpAny_bind (wpAny_setEpoch_of c rfl d ?_);unfold newFields;exact wpAny_bind (wpAny_newObj_type (wpAny_pure ⟨_,rfl,"set_iterator",_,⟨_,Heap.get?_push_size _ rfl,rfl⟩,dF.lookup,q⟩))
theorem Walks.set(N:A.handled=none)(I a:Addr)(B:a≠I)(d:Array (Int×Value))(n:Nat)(t:SetTable)(q:t.fits d.size=true)(R:w.params.followText "set-order"=true∨Ec t d.size):
  Walks P0 w A I [I,a] [I] d.size (λi v=>∃e,(gy w a n d)[i]? =some e∧v=e.2)
   (λi h=>(∃slot,h.get? I=some (QH slot i a d.size n)∧(w.params.followText "set-order"=true∨(Ec t d.size∧slot=slotAt t i)))∧h.get? a=some (lJ d n t)∧i≤d.size)where
 sub:=λb f=>by simp at f;simp[f]
 frame:=λi h h' st G=>let⟨⟨slot,e,r⟩,e2,l⟩:=st;⟨⟨slot,G I (by simp) _ e,r⟩,G a (by simp) _ e2,l⟩
 item:=λi s Q E H st p=>by
  refine bR st λg k l=>ay g λslot e r=>?_;have c:s.TypeIs (.ref I) "set_iterator":=⟨_,e,rfl⟩;unfold pyNext;refine wpAny_bind (wpAny_attempt (wpAny_callSpecial?_slot c dF (wpAny_call_entry dF c j4 ?_ (k6 _))));unfold Builtin.«set_iterator.__next__» slotArgs;dsimp only[List.isEmpty_nil,List.length_nil];refine wpAny_bind (wpAny_pure ?_);refine wpAny_bind (wpAny_fieldsOf e rfl ?_);dsimp only;refine wpAny_bind (wpAny_setEntries_of k rfl q ?_);refine rl (if_neg (by simp)) ?_;refine wpAny_bind (ve k q r l (λx D m M=>?_) (λh=>absurd H (Nat.not_lt_of_le h)));refine wpAny_bind (wpAny_setField_rec e (by simp) λO K j=>?_);refine wpAny_bind (wpAny_setField_rec K (by simp) λJ P u=>?_);have F:∀b o,b≠I→s.heap.get? b=some o→J.get? b=some o:=λb o f e=>by refine rl (u.2 b f) (rl (j.2 b f) ?_);exact e
  refine wpAny_pure ⟨_,rfl,wpAny_pure (p x.2 J s.toks ⟨x,m,rfl⟩ ⟨⟨D,P,M⟩,F a _ B k,H⟩ λb o f e=>F b o (λz=>f (by simp[z])) e)⟩
 done:=λs Q E st p=>by
  obtain⟨⟨slot,e,r⟩,k,l⟩:=st;have c:s.TypeIs (.ref I) "set_iterator":=⟨_,e,rfl⟩;unfold pyNext;refine wpAny_bind (wpAny_attempt (wpAny_callSpecial?_slot c dF (wpAny_call_entry dF c j4 ?_ (k6 _))));unfold Builtin.«set_iterator.__next__» slotArgs;dsimp only[List.isEmpty_nil,List.length_nil];refine wpAny_bind (wpAny_pure ?_);refine wpAny_bind (wpAny_fieldsOf e rfl ?_);dsimp only;refine wpAny_bind (wpAny_setEntries_of k rfl q ?_);refine rl (if_neg (by simp)) ?_;have C:∀x,(gy w a n d)[d.size]? ≠some x:=λx m=>by
   have y:(gy w a n d).size=d.size:=by rw[←Array.length_toList,(jk w a n d).length_eq,Array.length_toList]
   rw[Array.getElem?_eq_none (Be y)]at m;exact no m
  refine wpAny_bind (ve (i:=d.size) k q r l (λx D m L=>absurd m (C x)) (λL=>?_));refine wpAny_bind (wpAny_setField_rec e (by simp) λO K j=>?_);refine wpAny_bind ?_;simp only[newExc];refine wpAny_bind (wpAny_newObj_type ?_ (by size_fits));refine wpAny_bind (wpAny_of_eq (a:=Value.none) (by first|rfl|(simp only[firstArgMember];rfl)) ?_);refine wpAny_newObj_type ?_ (by size_fits);dsimp only[raiseNew];refine wpAny_bind (wpAny_handled ?_);refine rl N ?_;refine wpAny_bind (wpAny_pure (wpAny_throw ?_));refine wpAny_bind (wpAny_isInstance ⟨_,Heap.get?_push_size _ rfl,rfl⟩ isSubtype_stop ?_);refine wpAny_pure (p _ s.toks λb o f e=>Heap.get?_push_of_some _ (Heap.get?_push_of_some _ ?_));exact rl (j.2 b (λz=>f (by simp[z]))) e
 self:=λi s Q E st p=>by refine bR st λg k l=>ay g λslot e r=>?_;have c:s.TypeIs (.ref I) "set_iterator":=⟨_,e,rfl⟩;refine wpAny_pyIter_slot c k7 (wpAny_call_entry k7 c qu ?_ (q3 _));exact wpAny_pure ⟨_,rfl,"set_iterator",_,c,dF.lookup,p⟩
theorem Dz(e:s.TypeIs (.ref a) "set")(h:Q false s):wpAny (model P0 w) A (Builtin.List.listLengthHint (.ref a)) Q E s:=by
 unfold Builtin.List.listLengthHint;refine wpAny_bind (wpAny_specialOf e PySem.F.slot_set_len.lookup ?_);generalize d:("set.__len__":String)=Si
 wp_delta
 refine rl (show splitId Si=some ("set","__len__")from by subst d;decide+kernel) ?_;subst d;refine wpAny_bind (wpAny_isInstance (b:=true) e (by rw[isSubtype_type];rfl) ?_);refine wpAny_ite_split (λc=>absurd c (by decide)) (λf=>?_);refine wpAny_ite_split (λf=>?_) (λc=>absurd (by decide+kernel) c);refine wpAny_bind (wpAny_typeOf e ?_);exact wpAny_pure h
theorem GR(l:t.fits d.size=true)(f:w.params.followText "set-order"=true∨Ec t d.size):
  KdlSrc P0 w "set" a a d.size (λi v=>∃e,(gy w a m d)[i]? =some e∧v=e.2) (λh=>h.get? a=some (lJ d m t))where
 type:=λs h=>⟨_,h,rfl⟩
 there:=λh e=>⟨Heap.lt_size e,Heap.lt_size e⟩
 keep:=λh h' e k=>k a (.inl rfl) _ e
 notList:=by rfl
 notTuple:=by rfl
 hint:=λA E s Q e q=>Dz ⟨_,e,rfl⟩ q
 iter:=λA s n e=>(fu _ _ ⟨λE Q q=>DA e l f q,Walks.set n _ a (Nat.ne_of_lt (Heap.lt_size e)) d m t l f,⟨⟨0,Heap.get?_push_size _ rfl,f.imp id λT=>⟨T,rfl⟩⟩,Heap.get?_push_of_some _ e,Nat.zero_le _⟩⟩)
end
section
variable{w:World}{h₀ h h':Heap}{f f':PM}{as:List (Addr×Addr)}{σ σ':ak}{A:Around}{E:Value→Shared→Prop}{s:Shared}{n:Nat}{env:Env}{op:Bool}{ρ:aB}{C:Mine.Sem}
 {K:Frag}{mg mb:Str→Option Value}{sg:List D}
theorem xu(S:mT w s.heap a ms)(U:ms.length<64)(N:A.handled=none)
  (q:∀h' tk D out ns' e,(∀b o,s.heap.get? b=some o→h'.get? b=some o)→s.heap.get? D=none→h'.get? D=some (seqObj "list" out e)→IntsAre out.toList ns'→ns'.Perm ms→ns'.Pairwise (λx y=>x≤y)→Q (.ref D) {s with heap:=h',toks:=tk}):
  wpAny (model P0 w) A (call (.builtin "sorted") [.ref a]) Q E s:=by
 refine D8 S λj m t l M I p O R=>?_;have hn:j.size=ms.length:=by rw[←Array.length_toList,I.len,p.length_eq]
 refine Calls.call_function_entry kind_sorted plain_sorted entry_sorted (args_sorted1 _) ?_;unfold Builtin.«sorted»;refine wpAny_bind (wpAny_pure ?_);refine wpAny_bind (kdu_collect (GR O R) N M (by refine rl sizeLine_eq ?_;lia) λu tk acc G c=>?_);refine ay (gV.perm (jk w a m j) I) λL I' K=>?_;have k:(gy w a m j).size=j.size:=by rw[←Array.length_toList,(jk w a m j).length_eq,Array.length_toList]
 have X:acc.toList=(gy w a m j).toList.map (λx=>x.2):=by
  apply List.ext_getElem
  ·simp only[List.length_map,Array.length_toList,k];exact c.1
  ·intro i V h3;have H:i<acc.size:=by simpa using V
   refine ay (c.2 i acc[i] (Array.getElem?_eq_getElem H)) λe v r=>?_;rw[List.getElem_map,Array.getElem_toList,r];have B:i<(gy w a m j).size:=by refine rl k (rr c.1 ?_);exact H
   rw[Array.getElem?_eq_getElem B]at v
   (revert r;refine one v ?_;intro r)
   rw[Array.getElem_toList]
 have T:IntsAre acc.toList L:=by refine ay I' λps v r=>rl X (rl v ?_);refine rr r (rl List.map_map ?_);exact intsAre_map
 have d:acc.toList.length<64:=by refine rl Array.length_toList (rl c.1 ?_);lia
 refine wpAny_bind (wpAny_newList ?_ (by refine rl sizeLine_eq ?_;exact xS d));have g:(u.push (seqObj "list" acc.toList.toArray 0)).get? u.objs.size=some (seqObj "list" acc.toList.toArray 0):=Heap.get?_push_size _ rfl;refine wpAny_bind (wpAny_holding (wpAny_call_entry slot_list_sort ⟨_,g,rfl⟩ entry_list_sort (list_sort_tree g T d λout ns' a1 Z Y=>⟨_,rfl,?_⟩) (args_list_sort _)));refine aT (sortedHeap_at g) λe P=>wpAny_pure ⟨_,rfl,q _ tk u.objs.size out ns' e (λb o W=>?_) ?_ P a1 (Z.trans (K.trans p)) Y⟩
 ·have J:=G b o W;have F:=Heap.lt_size J;refine rl (sortedHeap_old (Nat.ne_of_lt F) (by rw[Heap.size_push];exact Nat.lt_succ_of_lt F)) ?_;exact Heap.get?_push_of_some _ J
 ·cases z:s.heap.get? u.objs.size with
  |none=>rfl
  |some o=>exact absurd (Heap.lt_size (G _ _ z)) (Nat.lt_irrefl _)
theorem w5:∀{l m:List Int},l.Nodup→m.Nodup→(∀x,x∈l↔x∈m)→l.Perm m:=by
 intro l;induction l with
 |nil=>
  intro m _ _ h;clear a_1;cases m with
  |nil=>exact .nil
  |cons a m=>exact nomatch (h a).mpr (.head _)
 |cons a l j=>
  intro m g i h;rw[List.nodup_cons]at g;have k:=(h a).mp (.head _);have d:=List.perm_cons_erase k;have b:=d.nodup_iff.mp i;rw[List.nodup_cons]at b;refine((j g.2 b.2 λx=>?_).cons a).trans d.symm;constructor
  ·intro c;have:=d.mem_iff.mp ((h x).mp (.tail _ c));rcases List.mem_cons.mp this with e|this
   ·exact absurd (e▸c) g.1
   ·exact this
  ·intro c;have:=(h x).mpr (d.mem_iff.mpr (.tail _ c));rcases List.mem_cons.mp this with e|this
   ·exact absurd (e▸c) b.1
   ·exact this
set_option tactic.hygienic true in
theorem vn(G:h8 K mg mb h₀ sg)(B:bW env mg "sorted" (.builtin "sorted"))(B2:bW env mg "set" (.type "set"))(Ha:aY w h₀ n env op op a (aH C ta))
  (S:starEach [.Call (.Name "set" NR) [a] [] pos2] env=[(false,eval (.Call (.Name "set" NR) [a] [] pos2) env)])(i:starEach [a] env=[(false,eval a env)]):
  aY w h₀ n env op op (.Call (.Name "sorted" np) [.Call (.Name "set" NR) [a] [] pos2] [] pos) (aH C (.blt .jm (.cons ta .nil))):=by
 refineλρ σ v σ' e=>au e λxs σ1 J e=>au J λx p ea J=>?_
 revert e
 refine two (show some ([x],p)=some (xs,σ1)from J) λe=>az e λds e2 e=>az e λz ez e=>two e λA f as s Q E R H V q=>?_;have I:=ez;refine wpAny_Call_Name_kw (B.eval G H V.ok ?_);refine Calls.callWith_builtin (by refine rl S ?_;rfl) ?_;refine rl S ?_;refine evalArgs_plain (spliced_cons ?_);refine wpAny_Call_Name_kw (B2.eval G H V.ok ?_);refine PySem.callWith_type (by refine rl i ?_;rfl) ?_;refine rl i ?_;refine evalArgs_plain (spliced_cons ?_);refine Ha ρ σ x p ea A f as s _ E R H V λf1 Z DZ v1 j o1=>spliced_nil ?_;have S1:=j.hp.HG e2 (.cons o1 .nil);refine gA I λdx ex c=>jM c λdl el c=>aS c λhs c=>az c λns en c=>aS c λt F=>?_
 (revert q;refine one F ?_;intro q)
 clear G B B2 Ha S i ea J H V o1 e2 ez I c e;clear J e c F;subst ex;clear e c;subst el;refine ay S1.one λu hu o=>?_;clear S1;clear e c;cases hu;refine fG (o.lst j.hp.on) λl vs m d g r=>?_;subst d;have T:vs.length<64:=by exact rl r.length (qv hs)
 refine bG (ints_of en r) λxs M L d=>?_;clear hs en r;subst M;subst L;subst d;refine zj R.hd ⟨_,g,rfl,m,rfl⟩ intsAre_map (by simpa using T) (Nat.le_of_lt_succ (Nat.blt_eq.mp t)) λh2 O ms S2 nd hm Y=>spliced_nil ?_;have X:=w5 nd jW λk=>by rw[hm,fS]
 have P:ms.length<64:=by refine rl X.length_eq ?_;have:=Nat.blt_eq.mp t;exact IT this
 refine xu (s:={s with heap:=h2,toks:=O}) S2 P R.hd λh3 N D out ns' e3 k3 W g3 i3 p3 s3=>?_;have A2:=cH.keeps j.hp j.vr λb o eb=>k3 b o (Y b o eb);have U:Z.get? D=none:=by
  cases y:Z.get? D with
  |none=>rfl
  |some o=>replace W:=(Y D o y)▸W;cases W
 have A3:=cH.newObj j.hp j.vr A2 U g3;refine q _ h3 N _ (j.trans A3) (.lst (by rw[PM.bA]) ?_);exact rr (ji (p3.trans X) s3) (m6 i3)
end
section
variable{w:World}{h₀:Heap}{mg mb:Str→Option Value}{n:Nat}{C:Mine.Sem}{env:Env}{op:Bool}
theorem yZ(X:Cx w h₀ mg mb n C)(d:env.kindOf (Str.ofString "sorted")=some .globalImplicit)(c:env.kindOf (Str.ofString "set")=some .globalImplicit)(f:aY w h₀ n env op op a (aH C ta))
  (e:starEach [.Call (.Name (Str.ofString "set") NR) [a] [] pos2] env=[(false,eval (.Call (.Name (Str.ofString "set") NR) [a] [] pos2) env)]:=by rfl)(b:starEach [a] env=[(false,eval a env)]:=by rfl):
  aY w h₀ n env op op (.Call (.Name (Str.ofString "sorted") np) [.Call (.Name (Str.ofString "set") NR) [a] [] pos2] [] pos) (aH C (.blt .jm (.cons ta .nil))):=
 vn X.G (gQ X d) (LL X c) f e b
theorem N5:oQ (fh 5)where
 g:=⟨λb a k h i j vs d=>by
   match vs,d with
   |[v],_=>rfl,by rfl,by rfl,by rfl,by decide⟩
 s8:=by
  have e:wX (fh 5).scope.names=true:=by rfl
  intro y c f;have:=List.all_eq_true.mp e y c;replace this:=f▸this;exact ft this
 loc:=by rfl
 body:=(Ao _ _ _ _ _ _ _ _ (fu _ _ rfl))
theorem FL(X:Cx w h₀ mg mb n C)(d:env.kindOf (Str.ofString "sorted")=some .globalImplicit)
  (j:env.code= .ref (iJ.getD 5 default).2.1)(e:env.qual++"<lambda>"=(iJ.getD 5 default).2.2)(g:env.scope.kind= .function)(f:fh 5=⟨params,body,scope⟩)(b:defaultsOf params env=([],[]))(c:closureFor scope env=pure [])
  (i:starEach [a] env=[(false,eval a env)])(l:aY w h₀ n env op op a (aH C ta))(h:env.globals=mainGlobals:=by rfl)(k:env.builtins=builtinsNs:=by rfl):
  aY w h₀ n env op op (.Call (.Name (Str.ofString "sorted") np) [a] [⟨some (Str.ofString "key"),.Lambda params body scope Pr,kp⟩] pos) (aH C (.rK 5 ta)):=
 Af X.G (gQ X d) ⟨g,h,k⟩ (sV X (by decide) j e) f N5 b c i l
noncomputable abbrev WG(w:World)(h₀:Heap)(n:Nat)(C:Mine.Sem)(L:Addr)(g:Nat)(f:bq):Prop:=∃op,cR w h₀ n (aV g L) true op (execs (fQ (k8 g)) (aV g L)) (cu C f.body)
noncomputable abbrev kG(g:Nat)(L:Addr)(s:String):Prop:=(aV g L).kindOf (Str.ofString s)=some .globalImplicit
theorem bg(c:aY w h₀ n env op dU a (aH C ta))(b:starEach [a] env=(false,eval a env)::starEach [] env:=by rfl):eW w h₀ n env op dU [a] (bH C (.cons ta .nil)):=af b c aD
end
section
variable{w:World}{h₀:Heap}{mg mb:Str→Option Value}{n:Nat}{C:Mine.Sem}(X:Cx w h₀ mg mb n C)
include X
theorem d0 L:WG w h₀ n C L 0 f0:=by
 have r:kG 0 L "max":=by rfl
 have l:kG 0 L "sorted":=by rfl
 have s_1 {op}:aG (aV 0 L) op 1:=ao rfl;have s_0 {op}:aG (aV 0 L) op 0:=ao rfl;have s_2 {op}:aG (aV 0 L) op 2:=ao rfl;exact⟨true,(ae id (fj (g8 aD) s_0 rfl) (ae id (c7 (bN X.G.mods (bC X (gQ X l) j9 (kh X) (bg (cQ ⟨(bx rfl),rfl,by decide,(bN X.G.mods (aa)),λj=>rfl,(by intro _ h;exact It.oe h),(λj t=>⟨(cf (all2 (t.store (by decide) (by rfl)) (t.store (by decide) (by rfl))) ne2 (.cons (aK) (.cons (aK) .nil)) rfl rfl),bF,(bc (af rfl (bC X (gu X (t.kind (by kernel_rfl) (by decide))) gr (gv X) (bg (aa))) (bg (bC X (gu X (t.kind (by kernel_rfl) (by decide))) gr (gv X) (bg (aa)))))),.nil⟩)⟩)))) (cf (all2 s_1 s_2) ne2 (.cons (aK) (.cons (aK) .nil)) rfl rfl) (ae id (bh (aN X.G.mods (aa) (aa) rfl) (ae id rJ ah) ah) (ae id (bh (iZ (bJ (aN X.G.mods (aa) (bX aD) rfl) (bJ (aN X.G.mods (aa) (aL (λj j=>rfl) (aL (λj j=>rfl) (aa) (dj aj)) aj) rfl) eu))) (ae id (dW (aJ (bc (af rfl (aL (λj j=>rfl) (aL (λj j=>rfl) (aa) (dj aj)) aj) (bg (bC X (sC X r) xW (xY X) (af rfl (aL (λj j=>rfl) (aL (λj j=>rfl) (aa) (dj aj)) aj) (bg (aa)))))))) (aa) (dj aj) rfl) ah) (ae id (g9 (x:=0) (aJ (bc (af rfl (aa) (bg (aa))))) rfl rfl rfl rfl rfl) ah)) ah)) (λj=>rfl)) (ae id (aA (aa)) ah)))⟩
theorem d1 L:WG w h₀ n C L 1 f1:=by have s_1 {op}:aG (aV 1 L) op 1:=ao (by rfl);have s_0 {op}:aG (aV 1 L) op 0:=ao (by rfl);have s_2 {op}:aG (aV 1 L) op 2:=ao (by rfl);exact⟨true,(ae id (fj (g8 aD) s_0 rfl) (ae id (c7 (bN X.G.mods (aa)) (cf (all2 s_1 s_2) ne2 (.cons (aK) (.cons (aK) .nil)) rfl rfl) (ae id (g9 (x:=0) (aJ (aa)) (by kernel_rfl) rfl rfl (by rfl) rfl) (ae id (g9 (x:=0) (aJ (aa)) (by kernel_rfl) rfl rfl (by rfl) rfl) ah)) (λa=>rfl)) (ae id (aA (aa)) ah)))⟩
theorem d2 L:WG w h₀ n C L 2 f2:=by
 have a:kG 2 L "borders":=by rfl
 have b:kG 2 L "len":=by rfl
 have s_8 {op}:aG (aV 2 L) op 8:=ao (by rfl);have s_1 {op}:aG (aV 2 L) op 1:=ao (by rfl);have s_0 {op}:aG (aV 2 L) op 0:=ao (by rfl);have s_10 {op}:aG (aV 2 L) op 10:=ao (by rfl);have s_5 {op}:aG (aV 2 L) op 5:=ao (by rfl);have s_9 {op}:aG (aV 2 L) op 9:=ao (by rfl);exact⟨true,(ae id (c6 (xs:=[1,5]) (c5 rfl (aJ (aO X (by kernel_rfl) a (bg (aa)))) (c5 rfl (aJ (aO X (by kernel_rfl) a (bg (aa)))) eK)) (all2 s_1 s_5) (by decide) (by rfl) (by rfl) (by decide)) (ae id (c6 (tG rfl (g8 aD) (c5 rfl (aJ aj) (c5 rfl (aJ aj) eK))) (yX s_0 s_8 s_9) (by decide) (by rfl) (by rfl) (by decide)) (ae id (lN (eV (aP (aN X.G.mods (aa) (bC X (eY X b) eX (eZ X) (bg (aa))) rfl) (aP (aN X.G.mods (aa) (bC X (eY X b) eX (eZ X) (bg (aa))) rfl) cj))) (ae id (bh (eV (aP (aN X.G.mods (aa) (bC X (eY X b) eX (eZ X) (bg (aa))) rfl) (aP (iZ (bJ (aN X.G.mods (aa) (bC X (eY X b) eX (eZ X) (bg (aa))) rfl) (bJ (aN X.G.mods (aL (λc c=>rfl) (aa) (aa)) (aL (λc c=>rfl) (aa) (aa)) rfl) eu))) cj))) (ae id (bB (aJ (aL (λc c=>rfl) (aa) (aa))) s_10 (by rfl)) (ae id (qw aj s_8) ah)) (ae id (bB (aJ (aL (λc c=>rfl) (aa) (aa))) s_10 (by rfl)) (ae id (qw aj s_9) ah))) (ae id (bh (eV (aP (aN X.G.mods (aa) (bX aD) rfl) (aP (aN X.G.mods (aL (λc c=>rfl) (aa) (dj aj)) (aa) rfl) cj))) (ae id (g9 (x:=0) (aJ (aa)) rfl (by rfl) rfl rfl rfl) ah) ah) ah))) (ae id (aA (aa)) ah))))⟩
theorem d3 L:WG w h₀ n C L 3 f3:=⟨true,(ae id (qy X.G (aJ (aa)) (by rfl)) (ae id (qy X.G (aJ aj) (by rfl)) ah))⟩
theorem d4 L:WG w h₀ n C L 4 f4:=by
 have a:kG 4 L "len":=by rfl
 exact⟨true,(ae id (lN (iZ (bJ (aN X.G.mods (bw X.G.X X.G.cls (aa) rfl) (bC X (eY X a) eX (eZ X) (bg (bw X.G.X X.G.cls (aa) rfl))) rfl) (bJ (aN X.G.mods (aL (λb b=>rfl) (aL (λb b=>rfl) (bw X.G.X X.G.cls (aa) rfl) (bw X.G.X X.G.cls (aa) rfl)) aj) (aa) rfl) eu))) (ae id (tH X.G aj) ah)) (ae id (aA (j5 (cW X.G.mods (bw X.G.X X.G.cls (aa) rfl) (bC X (eY X a) eX (eZ X) (bg (bw X.G.X X.G.cls (aa) rfl))) rfl) (cW X.G.mods (aL (λb b=>rfl) (aL (λb b=>rfl) (bw X.G.X X.G.cls (aa) rfl) (bw X.G.X X.G.cls (aa) rfl)) aj) (aa) rfl))) ah))⟩
theorem d5 L:WG w h₀ n C L 5 f5:=by
 have d:kG 5 L "Walk":=by rfl
 have h:kG 5 L "len":=by rfl
 have a:kG 5 L "merged_borders":=by rfl
 have f:kG 5 L "range":=by rfl
 have s_8 {op}:aG (aV 5 L) op 8:=ao (by rfl);have s_13 {op}:aG (aV 5 L) op 13:=ao (by rfl);have s_14 {op}:aG (aV 5 L) op 14:=ao (by rfl);have s_1 {op}:aG (aV 5 L) op 1:=ao (by rfl);have s_0 {op}:aG (aV 5 L) op 0:=ao (by rfl);have s_12 {op}:aG (aV 5 L) op 12:=ao (by rfl);have s_5 {op}:aG (aV 5 L) op 5:=ao (by rfl);exact⟨true,(ae id (c6 (xs:=[0,1,5]) (tG rfl (g8 aD) (tG rfl (BK X (c:=0) (by kernel_rfl) d (bg (aa (x:=6)))) (tG rfl (BK X (c:=0) (by kernel_rfl) d (bg (aa (x:=7)))) eK))) (yX s_0 s_1 s_5) (by decide) (by rfl) (by rfl) (by decide)) (ae id (bB (x:=12) (aJ (aO X (g:=2) (by rfl) a (af rfl (aa (x:=6)) (bg (aa (x:=7)))))) s_12 (by rfl)) (ae id (c7 (nv X.G (eF X f) (bg (aE (o:=.sub) (bC X (b:=.len) (eY X h) eX (eZ X) (bg (aa (x:=12)))) aj))) (a8 (x:=8) s_8) (ae id (c6 (xs:=[13,14]) (c5 rfl (aJ (aL (λe e=>rfl) (aa (x:=12)) (aa (x:=8)))) (c5 rfl (aJ (aL (λe e=>rfl) (aa (x:=12)) (aE (o:=.add) (aa (x:=8)) aj))) eK)) (all2 s_13 s_14) (by decide) (by rfl) (by rfl) (by decide)) (ae id (bh (dz (cO (ny X.G X.CO X.LO (x:=15) (af rfl (bV X.G X.CO X.MO (m:=16) rfl (aa (x:=1)) (bg (aa (x:=13)))) (bg (bV X.G X.CO X.MO (m:=16) rfl (aa (x:=5)) (bg (aa (x:=13))))))) (λe=>rfl))) (ae id rJ ah) ah) (ae id (bh (iZ (bJ (aN X.G.mods (o:=.ne) (aa (x:=0)) (bX aD) rfl) (bJ (aN X.G.mods (o:=.eq) (aL (λe e=>rfl) (aL (λe e=>rfl) (aa (x:=0)) (dj (k:=1) aj)) aj) (aa (x:=13)) rfl) eu))) (ae id (dW (aJ (bc (af rfl (aL (λe e=>rfl) (aL (λe e=>rfl) (aa (x:=0)) (dj (k:=1) aj)) aj) (bg (aa (x:=14)))))) (aa (x:=0)) (dj (k:=1) aj) (by rfl)) ah) (ae id (g9 (x:=0) (aJ (bc (af rfl (aa (x:=13)) (bg (aa (x:=14)))))) (by rfl) (by rfl) rfl (by rfl) rfl) ah)) ah))) (λe=>rfl)) (ae id (aA (aa (x:=0))) ah))))⟩
theorem d6 L:WG w h₀ n C L 6 f6:=by
 have a:kG 6 L "put_together":=by rfl
 exact⟨true,(ae id (aA (aO X (by rfl) a (af rfl (aa) (af rfl (aa) (bg (m3 X (i:=0) (by decide) rfl rfl rfl rfl rfl rfl)))))) ah)⟩
theorem d7 L:WG w h₀ n C L 7 f7:=by
 have a:kG 7 L "put_together":=by rfl
 exact⟨true,(ae id (aA (aO X (by rfl) a (af rfl (aa) (af rfl (aa) (bg (m3 X (i:=1) (by decide) rfl rfl rfl rfl rfl rfl)))))) ah)⟩
theorem d8 L:WG w h₀ n C L 8 f8:=by
 have a:kG 8 L "put_together":=by rfl
 exact⟨true,(ae id (aA (aO X (by rfl) a (af rfl (aa) (af rfl (aa) (bg (m3 X (i:=2) (by decide) rfl rfl rfl rfl rfl rfl)))))) ah)⟩
theorem d9 L:WG w h₀ n C L 9 f9:=by
 have a:kG 9 L "put_together":=by rfl
 exact⟨true,(ae id (aA (aO X (by rfl) a (af rfl (aa) (af rfl (aa) (bg (m3 X (i:=3) (by decide) rfl rfl rfl rfl rfl rfl)))))) ah)⟩
theorem QZ L:WG w h₀ n C L 10 P9:=by
 have b:kG 10 L "common":=by rfl
 have a:kG 10 L "normal":=by rfl
 exact⟨true,(ae id (aA (aO X (by rfl) b (af rfl (aa) (bg (aO X (by rfl) a (bg (bX (bg (bc (af rfl (aa) (bg (aa)))))))))))) ah)⟩
theorem Q0 L:WG w h₀ n C L 11 O1:=by have s_1 {op}:aG (aV 11 L) op 1:=ao (by rfl);have s_2 {op}:aG (aV 11 L) op 2:=ao (by rfl);have s_21 {op}:aG (aV 11 L) op 21:=ao (by rfl);exact⟨true,(ae id (bB (aJ aj) s_21 rfl) (ae id (c7 (bN X.G.mods (aa)) (cf (all2 s_1 s_2) ne2 (.cons (aK) (.cons (aK) .nil)) rfl rfl) (ae id (qw (aE (o:=.sub) (aa) (aa)) s_21) ah) (λa=>rfl)) (ae id (aA (aa)) ah)))⟩
theorem Q2 L:WG w h₀ n C L 12 Nk:=by
 have a:kG 12 L "len":=by rfl
 have s_20 {op}:aG (aV 12 L) op 20:=ao rfl;have s_19 {op}:aG (aV 12 L) op 19:=ao rfl;have s_22 {op}:aG (aV 12 L) op 22:=ao rfl;exact⟨true,(ae id (c6 (c5 rfl (aJ aj) (c5 rfl (aJ (bC X (eY X a) eX (eZ X) (bg (aa)))) eK)) (all2 s_19 s_20) (by decide) (by rfl) rfl (by decide)) (ae id (lN (aN X.G.mods (aa) (aa) rfl) (ae id (bB (aJ (aE (o:=.fdiv) (aE (o:=.add) (aa) (aa)) aj)) s_22 (by rfl)) (ae id (bh (aN X.G.mods (aL (λb b=>rfl) (aL (λb b=>rfl) (aa) (aa)) aj) (aa) rfl) (ae id (bB (aJ (aE (o:=.add) (aa) aj)) s_19 (by rfl)) ah) (ae id (bB (aJ (aa)) s_20 (by rfl)) ah)) ah))) (ae id (aA (j5 (cW X.G.mods (aa) (bC X (eY X a) eX (eZ X) (bg (aa))) rfl) (cW X.G.mods (aL (λb b=>rfl) (aL (λb b=>rfl) (aa) (aa)) aj) (aa) rfl))) ah)))⟩
theorem Q3 L:WG w h₀ n C L 13 Qa:=⟨true,(ae id (aA (cQ ⟨(bx rfl),rfl,by decide,(bN X.G.mods (aa)),λl=>rfl,(by intro _ h;exact It.oe h),(λl j=>⟨(cf (all2 (j.store (by decide) (by rfl)) (j.store (by decide) (by rfl))) ne2 (.cons (aK) (.cons (aK) .nil)) rfl rfl),bF,(bc (af rfl (aE (o:=.add) (aa) (aa)) (bg (aE (o:=.add) (aa) (aa))))),.nil⟩)⟩)) ah)⟩
theorem Q4 L:WG w h₀ n C L 14 Oa:=by
 have f:kG 14 L "list":=by rfl
 have d:kG 14 L "sorted":=by rfl
 have s_26 {op}:aG (aV 14 L) op 26:=ao rfl;exact⟨true,(ae id (vg (x:=11) (y:=25) X.G (by rfl)) (ae id (c7 (bN X.G.mods (bC X (gQ X d) j9 (kh X) (bg (cQ ⟨(bx rfl),rfl,by decide,(bN X.G.mods (aa)),λi=>rfl,(by intro _ h;exact It.oe h),(λi o=>⟨(a8 (o.store (by decide) (by rfl))),bF,(bC X (gu X (o.kind (by rfl) (by decide))) gr (gv X) (bg (aa))),.nil⟩)⟩)))) (a8 s_26) (ae id (bh (aN X.G.mods (aL (λi i=>rfl) (aa) (aa)) (bX aD) rfl) (ae id (dW (aJ (bC X (ja X f) j8 (kg X) (bg (aL (λi i=>rfl) (aa) (aa))))) (bw X.G.X X.G.cls (aa) rfl) (aa) (by rfl)) ah) ah) ah) (λi=>rfl)) ah))⟩
theorem Q5 L:WG w h₀ n C L 15 Qc:=by
 have a:kG 15 L "list":=by rfl
 exact⟨true,(ae id (aA (bC X (ja X a) j8 (kg X) (bg (yF X.G.mods rfl (bw X.G.X X.G.cls (aa) rfl) (af rfl (aa) (bg (bX aD))))))) ah)⟩
theorem Q6 L:WG w h₀ n C L 16 Qd:=by
 have a:kG 16 L "list":=by rfl
 exact⟨true,(ae id (aA (bC X (ja X a) j8 (kg X) (bg (bw X.G.X X.G.cls (aa) rfl)))) ah)⟩
theorem Q7 L:WG w h₀ n C L 17 Qe:=⟨true,(ae id (aA (cW X.G.mods (bw X.G.X X.G.cls (aa) rfl) vj rfl)) ah)⟩
theorem Q8 L:WG w h₀ n C L 18 Qf:=by
 have a:kG 18 L "holds_spans":=by rfl
 exact⟨true,(ae id (aA (aO X rfl a (af rfl (yF X.G.mods rfl (bw X.G.X X.G.cls (aa) rfl) (af rfl (aa) (bg (bX aD)))) (bg (aa))))) ah)⟩
theorem Q9 L:WG w h₀ n C L 19 Qg:=by
 have f:kG 19 L "sum":=by rfl
 exact⟨true,(ae id (aA (bC X (LM X f) LK (LN X) (bg (cQ ⟨(bx rfl),rfl,by decide,(bN X.G.mods (bw X.G.X X.G.cls (aa) rfl)),λj=>rfl,(by intro _ h;exact It.oe h),(λj l=>⟨(a8 (l.store (by decide) (by rfl))),bF,(aO X rfl (l.kind (by rfl) (by decide)) (bg (aL (λj j=>rfl) (bw X.G.X X.G.cls (aa) rfl) (aa)))),.nil⟩)⟩)))) ah)⟩
theorem Ra L:WG w h₀ n C L 20 Qh:=by
 have q:kG 20 L "max":=by rfl
 have p:kG 20 L "min":=by rfl
 have s_28 {op}:aG (aV 20 L) op 28:=ao rfl;have s_29 {op}:aG (aV 20 L) op 29:=ao rfl;have s_30 {op}:aG (aV 20 L) op 30:=ao rfl;exact⟨true,(ae id (bh (cO (bV X.G X.CO X.MO rfl (aa) aD) (λf=>rfl)) (ae id (aA vm) ah) ah) (ae id (bB (aJ (bC X (wc X p) v7 (we X) (bg (cQ ⟨(bx (by kernel_rfl)),rfl,by decide,(bN X.G.mods (bw X.G.X X.G.cls (aa) rfl)),λf=>rfl,(by intro _ h;exact It.oe h),(λf r=>⟨(a8 (r.store (by decide) (by kernel_rfl))),bF,(aL (λf f=>rfl) (aL (λf f=>rfl) (aL (λf f=>rfl) (bw X.G.X X.G.cls (aa) rfl) (aa)) aj) aj),.nil⟩)⟩)))) s_28 rfl) (ae id (bB (aJ (bC X (sC X q) BC (BH X) (bg (cQ ⟨(bx (by kernel_rfl)),rfl,by decide,(bN X.G.mods (bw X.G.X X.G.cls (aa) rfl)),λf=>rfl,(by intro _ h;exact It.oe h),(λf r=>⟨(a8 (r.store (by decide) (by kernel_rfl))),bF,(aL (λf f=>rfl) (aL (λf f=>rfl) (aL (λf f=>rfl) (bw X.G.X X.G.cls (aa) rfl) (aa)) (dj aj)) aj),.nil⟩)⟩)))) s_29 rfl) (ae id (bB (aJ (bV X.G X.CO X.MO rfl (aa) aD)) s_30 rfl) (ae id (aA (bc (af rfl (aa) (af rfl (aL (λf f=>rfl) (aa) aj) (af rfl (aE (o:=.sub) (aa) (aa)) (bg (aE (o:=.sub) (aE (o:=.add) (aL (λf f=>rfl) (aa) (dj aj)) aj) (aL (λf f=>rfl) (aa) aj)))))))) ah)))))⟩
theorem Rb L:WG w h₀ n C L 21 Qi:=⟨true,(ae id (aA (cW X.G.mods (bw X.G.X X.G.cls (aa) rfl) (bw X.G.X X.G.cls (aa) rfl) rfl)) ah)⟩
theorem Nc(L:Addr)(a:Str)(b:Option Addr)(c:Value):∃op,aY w h₀ n (e7 (fh 0).scope L a b c) true op (fh 0).body (aH C l0.body):=
 ⟨true,(GX (aa) (aa))⟩
theorem Nd(L:Addr)(a:Str)(b:Option Addr)(c:Value):∃op,aY w h₀ n (e7 (fh 1).scope L a b c) true op (fh 1).body (aH C l1.body):=
 ⟨true,(j5 (aa) (aa))⟩
theorem Nf(L:Addr)(a:Str)(b:Option Addr)(c:Value):∃op,aY w h₀ n (e7 (fh 2).scope L a b c) true op (fh 2).body (aH C l2.body):=
 ⟨true,(j5 (aa) (yG (aa)))⟩
theorem Ng(L:Addr)(a:Str)(b:Option Addr)(c:Value):∃op,aY w h₀ n (e7 (fh 3).scope L a b c) true op (fh 3).body (aH C l3.body):=
 ⟨true,(cW X.G.mods (aa) (aa) rfl)⟩
theorem Nh(L c:Addr)(p:Str)(q:Option Addr)(r:Value):∃op,aY w h₀ n (Mk (fh 4).scope L c 26 52 p q r) false op (fh 4).body (aH C l4.body):=
 ⟨false,(cQ ⟨(bx rfl),rfl,by decide,(bN X.G.mods (GY (aa) (dj aj) (λk k=>rfl) (λk k=>rfl))),λk=>rfl,(by intro _ h;exact It.oe h),(λk s=>⟨(cf (all2 (s.store (by decide) (by rfl)) (s.store (by decide) (by rfl))) ne2 (.cons (aK) (.cons (aK) .nil)) rfl rfl),(gU (aN X.G.mods (aa) (aa) rfl)),(bc (af rfl (aa) (bg (aE (o:=.add) (aa) aj)))),.nil⟩)⟩)⟩
theorem Ni(L:Addr)(a:Str)(b:Option Addr)(c:Value):∃op,aY w h₀ n (e7 (fh 5).scope L a b c) true op (fh 5).body (aH C l5.body):=
 ⟨true,(bc (af rfl (aL (λd d=>rfl) (aa) aj) (bg (aL (λd d=>rfl) (aa) aj))))⟩
end
section
variable{w:World}{h₀:Heap}{mg mb:Str→Option Value}{n:Nat}{C:Mine.Sem}(X:Cx w h₀ mg mb n C)
include X
theorem Rc L:WG w h₀ n C L 22 Qj:=by
 have c:kG 22 L "Region":=by rfl
 have i:kG 22 L "dict":=by rfl
 have g:kG 22 L "range":=by rfl
 exact⟨true,(ae id (bh (eV (aP (aN X.G.mods (aa) aj rfl) (aP (aN X.G.mods (aa) aj rfl) cj))) (ae id qx ah) ah) (ae id (bh (aN X.G.mods (aa) aj rfl) (ae id (aA (kT X (by kernel_rfl) c (bg vj))) ah) ah) (ae id (aA (kT X (by kernel_rfl) c (bg (bC X (sA X i) sy (sD X) (bg (cQ ⟨(bx rfl),rfl,by decide,(fU X.G (eF X g) (af rfl (aa) (bg (aE (o:=.add) (aa) (aa))))),λp=>rfl,(by intro _ h;exact It.re h),(λp q=>⟨(a8 (q.store (by decide) (by rfl))),bF,(bc (af rfl (aa) (bg (bX (bg (bc (af rfl (aa) (bg (aE (o:=.add) (aa) (aa)))))))))),.nil⟩)⟩)))))) ah)))⟩
theorem Rd L:WG w h₀ n C L 23 Qk:=by
 have d:kG 23 L "Region":=by rfl
 have g:kG 23 L "dict":=by rfl
 have f:kG 23 L "range":=by rfl
 exact⟨true,(ae id (aA (kT X rfl d (bg (bC X (sA X g) sy (sD X) (bg (cQ ⟨(bx rfl),rfl,by decide,(fU X.G (eF X f) (af rfl (aa) (bg (aE (o:=.add) (aa) (aa))))),λq=>rfl,(by intro _ h;exact It.re h),(λq p=>⟨(a8 (p.store (by decide) (by rfl))),bF,(bc (af rfl (aa) (bg (aO X rfl (p.kind (by rfl) (by decide)) (bg (ny X.G X.CO X.LO (bg (aa)))))))),.nil⟩)⟩)))))) ah)⟩
theorem Rf L:WG w h₀ n C L 24 O2:=by
 have b:kG 24 L "Region":=by rfl
 have a:kG 24 L "list":=by rfl
 have s_25 {op}:aG (aV 24 L) op 25:=ao rfl;have s_26 {op}:aG (aV 24 L) op 26:=ao rfl;exact⟨true,(ae id (fj vf s_25 rfl) (ae id (c7 (bN X.G.mods (aE (o:=.add) (bC X (ja X a) j8 (kg X) (bg (bw X.G.X X.G.cls (aa) rfl))) (bC X (ja X a) j8 (kg X) (bg (bw X.G.X X.G.cls (aa) rfl))))) (a8 s_26) (ae id (bh (aN X.G.mods (aa) (aa) rfl) (ae id (dW (aJ (ny X.G X.CO X.LO (af rfl (bV X.G X.CO X.MO rfl (aa) (bg (aa))) (bg (bV X.G X.CO X.MO rfl (aa) (bg (aa))))))) (aa) (aa) rfl) ah) ah) ah) (λc=>rfl)) (ae id (aA (kT X rfl b (bg (aa)))) ah)))⟩
theorem Rh L:WG w h₀ n C L 25 Ql:=by
 have a:kG 25 L "by_rows":=by rfl
 have b:kG 25 L "union":=by rfl
 exact⟨true,(ae id (aA (aO X (by rfl) a (af rfl (aa) (af rfl (aa) (bg (sE X (by rfl) b)))))) ah)⟩
theorem Rj L:WG w h₀ n C L 26 Qm:=by
 have a:kG 26 L "by_rows":=by rfl
 have b:kG 26 L "common":=by rfl
 exact⟨true,(ae id (aA (aO X (by rfl) a (af rfl (aa) (af rfl (aa) (bg (sE X (by rfl) b)))))) ah)⟩
theorem Rk L:WG w h₀ n C L 27 Qn:=by
 have a:kG 27 L "by_rows":=by rfl
 have b:kG 27 L "less":=by rfl
 exact⟨true,(ae id (aA (aO X (by rfl) a (af rfl (aa) (af rfl (aa) (bg (sE X (by rfl) b)))))) ah)⟩
theorem Rl L:WG w h₀ n C L 28 Qo:=by
 have b:kG 28 L "by_rows":=by rfl
 have a:kG 28 L "exclusive":=by rfl
 exact⟨true,(ae id (aA (aO X (by rfl) b (af rfl (aa) (af rfl (aa) (bg (sE X (by rfl) a)))))) ah)⟩
theorem Rn L:WG w h₀ n C L 29 Qp:=by
 have e:kG 29 L "Region":=by rfl
 have f:kG 29 L "dict":=by rfl
 exact⟨true,(ae id (aA (kT X rfl e (bg (bC X (sA X f) sy (sD X) (bg (cQ ⟨(bx rfl),rfl,by decide,(bN X.G.mods (bw X.G.X X.G.cls (aa) rfl)),λq=>rfl,(by intro _ h;exact It.oe h),(λq r=>⟨(a8 (r.store (by decide) (by rfl))),bF,(bc (af rfl (aE (o:=.add) (aa) (aa)) (bg (aO X rfl (r.kind (by rfl) (by decide)) (af rfl (aL (λq q=>rfl) (bw X.G.X X.G.cls (aa) rfl) (aa)) (bg (aa))))))),.nil⟩)⟩)))))) ah)⟩
theorem Ro L:WG w h₀ n C L 30 O3:=by
 have b:kG 30 L "Region":=by rfl
 have a:kG 30 L "cut_to":=by rfl
 have s_25 {op}:aG (aV 30 L) op 25:=ao rfl;have s_26 {op}:aG (aV 30 L) op 26:=ao rfl;exact⟨true,(ae id (bh (eV (aP (aN X.G.mods (aa) aj rfl) (aP (aN X.G.mods (aa) aj rfl) cj))) (ae id qx ah) ah) (ae id (fj vf s_25 rfl) (ae id (c7 (bN X.G.mods (bV X.G X.CO X.MO rfl (aa) aD)) (a8 s_26) (ae id (bh (nu X.G.mods (aa) (aa) (aE (o:=.add) (aa) (aa)) rfl) (ae id (dW (aJ (aO X rfl a (af rfl (aL (λc c=>rfl) (bw X.G.X X.G.cls (aa) rfl) (aa)) (af rfl (aa) (bg (aE (o:=.add) (aa) (aa))))))) (aa) (aa) rfl) ah) ah) ah) (λc=>rfl)) (ae id (aA (kT X rfl b (bg (aa)))) ah))))⟩
theorem Rp L:WG w h₀ n C L 31 Qq:=by
 have a:kG 31 L "region_less":=by rfl
 exact⟨true,(ae id (aA (bV X.G X.CO X.MO rfl (aO X rfl a (af rfl (aa) (bg (aa)))) aD)) ah)⟩
theorem Rq L:WG w h₀ n C L 32 Qs:=by
 have a:kG 32 L "region_common":=by rfl
 exact⟨true,(ae id (aA (yG (bV X.G X.CO X.MO rfl (aO X rfl a (af rfl (aa) (bg (aa)))) aD))) ah)⟩
theorem Rr L:WG w h₀ n C L 33 O4:=by
 have a:kG 33 L "region_common":=by rfl
 have c:kG 33 L "region_less":=by rfl
 have b:kG 33 L "region_moved":=by rfl
 have s_38 {op}:aG (aV 33 L) op 38:=ao (by rfl);have s_39 {op}:aG (aV 33 L) op 39:=ao (by rfl);have s_29 {op}:aG (aV 33 L) op 29:=ao (by rfl);exact⟨true,(ae id (bB (x:=39) (aJ (aa (x:=37))) s_39 (by rfl)) (ae id (c7 (bN X.G.mods (bc (af rfl (bc (af rfl aj (bg aj))) (af rfl (bc (af rfl (dj (k:=1) aj) (bg aj))) (af rfl (bc (af rfl aj (bg aj))) (bg (bc (af rfl aj (bg (dj (k:=1) aj)))))))))) (cf (xs:=[29,38]) (all2 s_29 s_38) ne2 (.cons (aK (x:=29)) (.cons (aK (x:=38)) .nil)) rfl rfl) (ae id (bB (x:=39) (aJ (aO X (g:=26) (by rfl) a (af rfl (aa (x:=39)) (bg (aO X (g:=29) (by rfl) b (af rfl (aa (x:=37)) (af rfl (aa (x:=29)) (bg (aa (x:=38)))))))))) s_39 (by rfl)) ah) (λd=>rfl)) (ae id (aA (aO X (g:=27) (by rfl) c (af rfl (aa (x:=37)) (bg (aa (x:=39)))))) ah)))⟩
theorem Rt L:WG w h₀ n C L 34 Nl:=by
 have a:kG 34 L "int":=by rfl
 have c:kG 34 L "len":=by rfl
 have b:kG 34 L "max":=by rfl
 have s_43 {op}:aG (aV 34 L) op 43:=ao rfl;have s_40 {op}:aG (aV 34 L) op 40:=ao rfl;have s_44 {op}:aG (aV 34 L) op 44:=ao rfl;exact⟨true,(ae id (bB (aJ aj) s_40 (by rfl)) (ae id (bh (aN X.G.mods (aa) (bC X (eY X c) eX (eZ X) (bg (aa))) rfl) (ae id (bB (aJ (aL (λd d=>rfl) (aa) (aa))) s_40 (by rfl)) ah) ah) (ae id (bB (aJ (bC X (sC X b) xW (xY X) (af rfl (bC X (gu X a) gr (gv X) (bg (aa))) (bg (bC X (gu X a) gr (gv X) (bg (aE (o:=.sub) (dj aj) (aa)))))))) s_43 (by rfl)) (ae id (bB (aJ (aE (o:=.mod) (bC X (gu X a) gr (gv X) (bg (aE (o:=.mul) (aE (o:=.add) (aE (o:=.add) (aE (o:=.add) (aE (o:=.mod) (bC X (gu X a) gr (gv X) (bg (aa))) aj) (aE (o:=.mul) (aE (o:=.mul) aj (aa)) (aa))) (aE (o:=.mul) aj (aa))) aj) aj))) aj)) s_44 (by rfl)) (ae id (Ab (g8 (af rfl (aE (o:=.mul) (aa) (bC X (gu X a) gr (gv X) (bg (cW X.G.mods (aa) (aE (o:=.pow) aj aj) rfl)))) (bg (aa))))) ah)))))⟩
theorem Ru L:WG w h₀ n C L 35 Qt:=by
 have a:kG 35 L "int":=by rfl
 have s_46 {op}:aG (aV 35 L) op 46:=ao rfl;exact⟨true,(ae id (bh (aN X.G.mods (aL (λb b=>rfl) (aa) aj) aj rfl) (ae id (bB (aJ (aE (o:=.mod) (bC X (gu X a) gr (gv X) (bg (aL (λb b=>rfl) (aa) aj))) (aa))) s_46 (by rfl)) (ae id (dW (aJ (aE (o:=.fdiv) (aL (λb b=>rfl) (aa) aj) (aa))) (aa) aj (by rfl)) (ae id (aA (aa)) ah))) ah) (ae id (dW (aJ (aE (o:=.mod) (bC X (gu X a) gr (gv X) (bg (aE (o:=.add) (aE (o:=.mul) (aL (λb b=>rfl) (aa) aj) aj) aj))) aj)) (aa) aj (by rfl)) (ae id (aA (aE (o:=.mod) (bC X (gu X a) gr (gv X) (bg (aE (o:=.fdiv) (aE (o:=.mod) (bC X (gu X a) gr (gv X) (bg (aE (o:=.mul) (aL (λb b=>rfl) (aa) aj) (aL (λb b=>rfl) (aa) aj)))) aj) aj))) (aa))) ah)))⟩
theorem Rv L:WG w h₀ n C L 36 Qu:=by
 have a:kG 36 L "_law_take":=by rfl
 have b:kG 36 L "len":=by rfl
 exact⟨true,(ae id (aA (aL (λc c=>rfl) (aa) (aO X rfl a (af rfl (aa) (bg (bC X (eY X b) eX (eZ X) (bg (aa)))))))) ah)⟩
theorem Rw L:WG w h₀ n C L 37 Qv:=by
 have b:kG 37 L "_law_take":=by rfl
 have g:kG 37 L "range":=by rfl
 have s_28 {op}:aG (aV 37 L) op 28:=ao rfl;have s_34 {op}:aG (aV 37 L) op 34:=ao rfl;exact⟨true,(ae id (c6 (c5 rfl (aJ (aE (o:=.sub) (aO X (by kernel_rfl) b (af rfl (aa) (bg aj))) aj)) (c5 rfl (aJ (aE (o:=.sub) (aO X (by kernel_rfl) b (af rfl (aa) (bg aj))) aj)) eK)) (all2 s_28 s_34) (by decide) rfl rfl (by decide)) (ae id (aA (bX (af rfl (aa) (af rfl (aa) (bg (cQ ⟨(bx rfl),rfl,by decide,(nv X.G (eF X g) (bg (aO X (by kernel_rfl) b (af rfl (aa) (bg aj))))),λi=>rfl,(by intro i h;exact((congrArg (λx=>@It.casesOn (λi=>Prop) x (λi=>True) (λi=>True) (λi p=>True) (λi=>True) λi=>False) h).mp trivial).elim),(λi m=>⟨(a8 (m.store (by decide) (by rfl))),bF,(aO X rfl (m.kind (by rfl) (by decide)) (af rfl (aa) (bg (FJ X (m.kind (by rfl) (by decide)))))),.nil⟩)⟩)))))) ah))⟩
theorem Rx L:WG w h₀ n C L 38 O5:=by
 have a:kG 38 L "enumerate":=by rfl
 have s_38 {op}:aG (aV 38 L) op 38:=ao rfl;have s_0 {op}:aG (aV 38 L) op 0:=ao rfl;have s_28 {op}:aG (aV 38 L) op 28:=ao rfl;have s_29 {op}:aG (aV 38 L) op 29:=ao rfl;have s_50 {op}:aG (aV 38 L) op 50:=ao rfl;have s_25 {op}:aG (aV 38 L) op 25:=ao rfl;have s_51 {op}:aG (aV 38 L) op 51:=ao rfl;have s_34 {op}:aG (aV 38 L) op 34:=ao rfl;exact⟨true,(ae id (kM (aJ (aa)) (yX s_28 s_34 s_25) ne3 rfl rfl (.cons (aK) (.cons (aK) (.cons (aK) .nil))) rfl rfl) (ae id (fj (g8 aD) s_0 rfl) (ae id (c7 (rI X.G (i9 X a) (bg (aa))) (cf (all2 s_38 s_50) ne2 (.cons (aK) (.cons (aK) .nil)) rfl rfl) (ae id (c7 (rI X.G (i9 X a) (bg (aa))) (cf (all2 s_29 s_51) ne2 (.cons (aK) (.cons (aK) .nil)) rfl rfl) (ae id (bh (aN X.G.mods (aa) kO rfl) (ae id (g9 (x:=0) (aJ (bc (af rfl (aE (o:=.add) (aa) (aa)) (bg (aE (o:=.add) (aa) (aa)))))) rfl rfl rfl rfl rfl) ah) ah) ah) (λb=>rfl)) ah) (λb=>rfl)) (ae id (aA (aa)) ah))))⟩
theorem Ry L:WG w h₀ n C L 39 Qw:=by
 have a:kG 39 L "_law_dots":=by rfl
 have c:kG 39 L "len":=by rfl
 have b:kG 39 L "of_rows":=by rfl
 have s_52:aG (aV 39 L) true 52:=eM rfl;have s_28 {op}:aG (aV 39 L) op 28:=ao rfl;have s_25 {op}:aG (aV 39 L) op 25:=ao rfl;have s_34 {op}:aG (aV 39 L) op 34:=ao rfl;exact⟨false,(ae (λd=>rfl) (kM (aJ (aa)) (yX s_28 s_34 s_25) ne3 (by rfl) rfl (.cons (aK) (.cons (aK) (.cons (aK) .nil))) rfl rfl) (ae (λd=>rfl) (bB (aJ (aO X rfl a (bg (aa)))) s_52 (by rfl)) (ae id (aA (aO X rfl b (af rfl (aa) (af rfl (bC X (eY X c) eX (eZ X) (bg (aa))) (bg (BJ X (i:=4) (by decide) rfl rfl rfl rfl rfl rfl (by rfl) rfl)))))) ah)))⟩
end
section
variable{w:World}{h₀:Heap}{mg mb:Str→Option Value}{n:Nat}{C:Mine.Sem}(X:Cx w h₀ mg mb n C)
include X
theorem Rz L:WG w h₀ n C L 40 Qx:=by
 have CB:kG 40 L "len":=by rfl
 have NB:kG 40 L "max":=by rfl
 have Hw:kG 40 L "min":=by rfl
 have NE:kG 40 L "set":=by rfl
 have jS:kG 40 L "sorted":=by rfl
 have s_58 {op}:aG (aV 40 L) op 58:=ao (by rfl);have s_38 {op}:aG (aV 40 L) op 38:=ao (by rfl);have s_55 {op}:aG (aV 40 L) op 55:=ao (by rfl);exact⟨true,(ae id (fV (x:=55) ⟨(bx (by rfl)),rfl,by decide,(bN X.G.mods (bV X.G X.CO X.MO (m:=31) rfl (aa (x:=37)) aD)),λzz=>rfl,(by intro _ h;exact It.oe h),(λzz c1=>⟨(a8 (x:=54) (c1.store (x:=54) (by decide) (by rfl))),bF,(bc (af rfl (aa (x:=53)) (bg (aa (x:=54))))),(.cons rfl (bN X.G.mods (bV X.G X.CO X.MO (m:=4) rfl (aa (x:=37)) (bg (aa (x:=54))))) (cf (xs:=[1,2]) (all2 (c1.store (x:=1) (by decide) (by rfl)) (c1.store (x:=2) (by decide) (by rfl))) ne2 (.cons (aK (x:=1)) (.cons (aK (x:=2)) .nil)) rfl rfl) bF (λzz=>rfl) (by decide) (.cons rfl (fU X.G (eF X (c1.kind (k:=.globalImplicit) (by rfl) (by decide))) (af rfl (aa (x:=1)) (bg (aa (x:=2))))) (a8 (x:=53) (c1.store (x:=53) (by decide) (by rfl))) bF (λzz=>rfl) (by decide) .nil))⟩)⟩ s_55 (by rfl)) (ae id (bh (aN X.G.mods (o:=.ne) (aa (x:=55)) (FL X jS (by rfl) (by rfl) (by rfl) (by rfl) (by rfl) (by rfl) rfl (aa (x:=52))) rfl) (ae id (aA cP) ah) ah) (ae id (bB (aJ (yZ X jS NE (cQ ⟨(bx (by kernel_rfl)),rfl,by decide,(bN X.G.mods (aa)),λzz=>rfl,(by intro _ h;exact It.oe h),(λzz c1=>⟨(cf (all2 (c1.store (by decide) (by kernel_rfl)) (c1.store (by decide) (by kernel_rfl))) ne2 (.cons (aK) (.cons (aK) .nil)) rfl rfl),bF,(aa),.nil⟩)⟩))) s_38 (by rfl)) (ae id (bh (eV (aP (aN X.G.mods (bV X.G X.CO X.MO rfl (aa) aD) (bC X (eY X CB) eX (eZ X) (bg (aa))) rfl) (aP (aN X.G.mods (bV X.G X.CO X.MO rfl (aa) aD) (aa) rfl) (aP (aN X.G.mods (bV X.G X.CO X.MO rfl (aa) aD) (cW X.G.mods (aa) (bX aD) rfl) rfl) cj)))) (ae id (aA cP) ah) ah) (ae id (bh (aN X.G.mods (aa) (bX aD) rfl) (ae id (aA (cW X.G.mods (bV X.G X.CO X.MO rfl (aa) aD) vm rfl)) ah) ah) (ae id (fV ⟨(bx (by kernel_rfl)),rfl,by decide,(bN X.G.mods (aa)),λzz=>rfl,(by intro _ h;exact It.oe h),(λzz c1=>⟨(cf (all2 (c1.store (by decide) (by kernel_rfl)) (c1.store (by decide) (by kernel_rfl))) ne2 (.cons (aK) (.cons (aK) .nil)) rfl rfl),bF,(aa),.nil⟩)⟩ s_58 (by rfl)) (ae id (aA (cW X.G.mods (bV X.G X.CO X.MO rfl (aa) aD) (bc (af rfl (bC X (wc X Hw) v7 (we X) (bg (aa))) (af rfl (aL (λzz zz=>rfl) (aa) aj) (af rfl (aE (o:=.sub) (aE (o:=.add) (bC X (sC X NB) BC (BH X) (bg (aa))) aj) (bC X (wc X Hw) v7 (we X) (bg (aa)))) (bg (aE (o:=.sub) (aE (o:=.add) (aL (λzz zz=>rfl) (aa) (dj aj)) aj) (aL (λzz zz=>rfl) (aa) aj))))))) rfl)) ah)))))))⟩
theorem RA L:WG w h₀ n C L 41 O6:=by
 have CB:kG 41 L "len":=by rfl
 have om:kG 41 L "range":=by rfl
 have s_58 {op}:aG (aV 41 L) op 58:=ao rfl;have s_38 {op}:aG (aV 41 L) op 38:=ao rfl;have s_28 {op}:aG (aV 41 L) op 28:=ao rfl;have s_25 {op}:aG (aV 41 L) op 25:=ao rfl;have s_34 {op}:aG (aV 41 L) op 34:=ao rfl;exact⟨true,(ae id (kM (aJ (aa)) (yX s_28 s_34 s_25) ne3 rfl rfl (.cons (aK) (.cons (aK) (.cons (aK) .nil))) rfl rfl) (ae id (c7 (fU X.G (eF X om) (af rfl (aE (o:=.sub) (aa) aj) (bg (aE (o:=.add) (aE (o:=.add) (aa) (bC X (eY X CB) eX (eZ X) (bg (aa)))) aj)))) (a8 s_38) (ae id (c7 (fU X.G (eF X om) (af rfl (aE (o:=.sub) (aa) aj) (bg (aE (o:=.add) (aa) aj)))) (a8 s_58) (ae id (bh (aN X.G.mods (bV X.G X.CO X.MO rfl (aa) (af rfl (aa) (bg (aa)))) (cW X.G.mods (bc (af rfl (aa) (bg (aa)))) (aa) rfl) rfl) (ae id (aA cP) ah) ah) ah) (λzz=>rfl)) ah) (λzz=>rfl)) (ae id (aA cP) ah)))⟩
theorem RB L:WG w h₀ n C L 42 Qy:=by
 have sS:kG 42 L "_law_drawn":=by kernel_rfl
 have wN:kG 42 L "_law_one":=by kernel_rfl
 have dg:kG 42 L "_law_take":=by kernel_rfl
 have uF:kG 42 L "enumerate":=by kernel_rfl
 have CC:kG 42 L "list":=by kernel_rfl
 have s_38 {op}:aG (aV 42 L) op 38:=ao (by kernel_rfl);have s_12 {op}:aG (aV 42 L) op 12:=ao (by kernel_rfl);have s_29 {op}:aG (aV 42 L) op 29:=ao (by kernel_rfl);have s_25 {op}:aG (aV 42 L) op 25:=ao (by kernel_rfl);have s_51 {op}:aG (aV 42 L) op 51:=ao (by kernel_rfl);have s_59 {op}:aG (aV 42 L) op 59:=ao (by kernel_rfl);exact⟨true,(ae id (bB (x:=59) (aJ (aO X (g:=35) (by kernel_rfl) dg (af rfl (aa (x:=45)) (bg aj)))) s_59 (by kernel_rfl)) (ae id (bh (eV (aP (aN X.G.mods (o:=.eq) (aa (x:=59)) aj rfl) (aP (iZ (bJ (aN X.G.mods (o:=.eq) (aa (x:=59)) aj rfl) (bJ (aN X.G.mods (o:=.eq) (DK kO rfl (bg (aL (λzz zz=>rfl) (aa (x:=49)) aj))) kO rfl) eu))) cj))) (ae id (aA (bX (af rfl (aL (λzz zz=>rfl) (aa (x:=49)) aj) (af rfl (aL (λzz zz=>rfl) (aa (x:=49)) aj) (bg (bC X (b:=.list) (ja X CC) j8 (kg X) (bg (aL (λzz zz=>rfl) (aa (x:=49)) aj)))))))) ah) ah) (ae id (bh (aN X.G.mods (o:=.eq) (aa (x:=59)) aj rfl) (ae id (aA (aO X (g:=37) (by kernel_rfl) sS (bg (aa (x:=45))))) ah) ah) (ae id (fj (x:=25) (Aa X.G (ja X CC) (bg (aL (λzz zz=>rfl) (aa (x:=49)) aj))) s_25 rfl) (ae id (xq (x:=12) (y:=25) X.G (i9 X uF) rfl (bx (by kernel_rfl)) (by decide) (λzz=>rfl) (λzz c1=>⟨(cf (xs:=[38,50]) (all2 (c1.store (x:=38) (by decide) (by kernel_rfl)) (c1.store (x:=50) (by decide) (by kernel_rfl))) ne2 (.cons (aK (x:=38)) (.cons (aK (x:=50)) .nil)) rfl rfl),bF,(bc (af rfl (aa (x:=38)) (bg (aa (x:=29))))),(.cons rfl (nv X.G (eF X (c1.kind (k:=.globalImplicit) (by kernel_rfl) (by decide))) (bg (bC X (b:=.len) (eY X (c1.kind (k:=.globalImplicit) (by kernel_rfl) (by decide))) eX (eZ X) (bg (aa (x:=50)))))) (a8 (x:=29) (c1.store (x:=29) (by decide) (by kernel_rfl))) bF (λzz=>rfl) (by decide) .nil)⟩) s_12 (by kernel_rfl)) (ae id (kM (xs:=[38,29]) (aJ (aO X (g:=36) (by kernel_rfl) wN (af rfl (aa (x:=45)) (bg (aa (x:=12)))))) (all2 s_38 s_29) ne2 (by kernel_rfl) (by kernel_rfl) (.cons (aK (x:=38)) (.cons (aK (x:=29)) .nil)) rfl rfl) (ae id (bB (x:=51) (aJ (GV (aN X.G.mods (o:=.eq) (aL (λzz zz=>rfl) (aL (λzz zz=>rfl) (aa (x:=25)) (aa (x:=38))) (aa (x:=29))) kO rfl) kO kO)) s_51 (by kernel_rfl)) (ae id (dW (aJ (aE (o:=.add) (aE (o:=.add) (Ad (aL (λzz zz=>rfl) (aa (x:=25)) (aa (x:=38))) (aa (x:=29))) (aa (x:=51))) (vh (aL (λzz zz=>rfl) (aa (x:=25)) (aa (x:=38))) (aE (o:=.add) (aa (x:=29)) aj)))) (aa (x:=25)) (aa (x:=38)) (by kernel_rfl)) (ae id (aA (bX (af rfl (aL (λzz zz=>rfl) (aa (x:=49)) aj) (af rfl (aL (λzz zz=>rfl) (aa (x:=49)) aj) (bg (aa (x:=25))))))) ah)))))))))⟩
theorem RC L:WG w h₀ n C L 43 Nm:=by
 have dY:kG 43 L "_law_is":=by rfl
 have wO:kG 43 L "do_touch":=by rfl
 have nL:kG 43 L "is_inside":=by rfl
 have nU:kG 43 L "region_common":=by rfl
 have lD:kG 43 L "region_exclusive":=by rfl
 have qY:kG 43 L "region_less":=by rfl
 have pW:kG 43 L "region_union":=by rfl
 have jS:kG 43 L "sorted":=by rfl
 have s_63 {op}:aG (aV 43 L) op 63:=ao (by rfl);have s_64 {op}:aG (aV 43 L) op 64:=ao (by rfl);have s_60 {op}:aG (aV 43 L) op 60:=ao (by rfl);exact⟨true,(ae id (fV (x:=60) ⟨(bx (by kernel_rfl)),rfl,by decide,(bN X.G.mods (aa (x:=61))),λzz=>rfl,(by intro _ h;exact It.oe h),(λzz c1=>⟨(a8 (x:=10) (c1.store (x:=10) (by decide) (by kernel_rfl))),(gU (aN X.G.mods (o:=.isin) (aa (x:=10)) (aa (x:=62)) rfl)),(aa (x:=10)),.nil⟩)⟩ s_60 (by rfl)) (ae id (fV (x:=63) ⟨(bx (by kernel_rfl)),rfl,by decide,(bN X.G.mods (aa (x:=61))),λzz=>rfl,(by intro _ h;exact It.oe h),(λzz c1=>⟨(a8 (x:=10) (c1.store (x:=10) (by decide) (by kernel_rfl))),(gU (aN X.G.mods (o:=.iW) (aa (x:=10)) (aa (x:=62)) rfl)),(aa (x:=10)),.nil⟩)⟩ s_63 (by rfl)) (ae id (fV (x:=64) ⟨(bx (by rfl)),rfl,by decide,(bN X.G.mods (aa (x:=62))),λzz=>rfl,(by intro _ h;exact It.oe h),(λzz c1=>⟨(a8 (x:=10) (c1.store (x:=10) (by decide) (by rfl))),(gU (aN X.G.mods (o:=.iW) (aa (x:=10)) (aa (x:=61)) rfl)),(aa (x:=10)),.nil⟩)⟩ s_64 (by rfl)) (ae id (bh (eV (aP (aN X.G.mods (o:=.ne) (bV X.G X.CO X.MO (m:=65) rfl (aa (x:=1)) (bg (aa (x:=5)))) (cW X.G.mods (o:=.eq) (bC X (b:=.sorted) (gQ X jS) j9 (kh X) (bg (aa (x:=61)))) (bC X (b:=.sorted) (gQ X jS) j9 (kh X) (bg (aa (x:=62)))) rfl) rfl) (aP (aN X.G.mods (o:=.ne) (aO X (g:=32) (by rfl) wO (af rfl (aa (x:=1)) (bg (aa (x:=5))))) (cW X.G.mods (o:=.ne) (aa (x:=60)) (bX aD) rfl) rfl) cj))) (ae id (aA cP) ah) ah) (ae id (bh (eV (aP (aN X.G.mods (o:=.ne) (aO X (g:=31) (by kernel_rfl) nL (af rfl (aa (x:=1)) (bg (aa (x:=5))))) (cW X.G.mods (o:=.eq) (aa (x:=63)) (bX aD) rfl) rfl) (aP (aN X.G.mods (o:=.ne) (aO X (g:=31) (by kernel_rfl) nL (af rfl (aa (x:=5)) (bg (aa (x:=1))))) (cW X.G.mods (o:=.eq) (aa (x:=64)) (bX aD) rfl) rfl) cj))) (ae id (aA cP) ah) ah) (ae id (bh (eV (aP (dz (cO (aO X (g:=40) (by kernel_rfl) dY (af rfl (aO X (g:=25) (by rfl) pW (af rfl (aa (x:=1)) (bg (aa (x:=5))))) (bg (aE (o:=.add) (aa (x:=61)) (aa (x:=64)))))) (λzz=>rfl))) (aP (dz (cO (aO X (g:=40) (by kernel_rfl) dY (af rfl (aO X (g:=26) (by rfl) nU (af rfl (aa (x:=1)) (bg (aa (x:=5))))) (bg (aa (x:=60))))) (λzz=>rfl))) cj))) (ae id (aA cP) ah) ah) (ae id (aA (j5 (aO X (g:=40) (by kernel_rfl) dY (af rfl (aO X (g:=27) (by rfl) qY (af rfl (aa (x:=1)) (bg (aa (x:=5))))) (bg (aa (x:=63))))) (aO X (g:=40) (by kernel_rfl) dY (af rfl (aO X (g:=28) (by rfl) lD (af rfl (aa (x:=1)) (bg (aa (x:=5))))) (bg (aE (o:=.add) (aa (x:=63)) (aa (x:=64)))))))) ah)))))))⟩
theorem RD L:WG w h₀ n C L 44 Ob:=by
 have dY:kG 44 L "_law_is":=by kernel_rfl
 have dg:kG 44 L "_law_take":=by kernel_rfl
 have pU:kG 44 L "of_rectangle":=by kernel_rfl
 have om:kG 44 L "range":=by kernel_rfl
 have sU:kG 44 L "region_cut":=by kernel_rfl
 have pV:kG 44 L "region_moved":=by kernel_rfl
 have ND:kG 44 L "rim":=by kernel_rfl
 have s_53 {op}:aG (aV 44 L) op 53:=ao (by kernel_rfl);have s_54 {op}:aG (aV 44 L) op 54:=ao (by kernel_rfl);have s_38:aG (aV 44 L) true 38:=eM (by kernel_rfl);have s_33:aG (aV 44 L) true 33:=eM (by kernel_rfl);have s_66 {op}:aG (aV 44 L) op 66:=ao (by kernel_rfl);have s_28:aG (aV 44 L) true 28:=eM (by kernel_rfl);have s_68 {op}:aG (aV 44 L) op 68:=ao (by kernel_rfl);have s_29:aG (aV 44 L) true 29:=eM (by kernel_rfl);have s_34:aG (aV 44 L) true 34:=eM (by kernel_rfl);have s_67 {op}:aG (aV 44 L) op 67:=ao (by kernel_rfl);have s_32:aG (aV 44 L) true 32:=eM (by kernel_rfl);exact⟨true,(ae id (kN (xs:=[29,38]) (c5 rfl (aJ (aE (o:=.sub) (aO X (g:=35) (by kernel_rfl) dg (af rfl (aa (x:=45)) (bg aj))) aj)) (c5 rfl (aJ (aE (o:=.sub) (aO X (g:=35) (by kernel_rfl) dg (af rfl (aa (x:=45)) (bg aj))) aj)) eK)) (all2 s_29 s_38) (by kernel_rfl) (by kernel_rfl) (by decide) (.cons (aK (x:=29)) (.cons (aK (x:=38)) .nil)) rfl rfl) (ae id (bh (dz (cO (aO X (g:=40) (by kernel_rfl) dY (af rfl (aO X (g:=29) (by kernel_rfl) pV (af rfl (aa (x:=37)) (af rfl (aa (x:=29)) (bg (aa (x:=38)))))) (bg (cQ ⟨(bx (by kernel_rfl)),rfl,by decide,(bN X.G.mods (aa (x:=52))),λzz=>rfl,(by intro _ h;exact It.oe h),(λzz c1=>⟨(cf (xs:=[53,54]) (all2 (c1.store (x:=53) (by decide) (by kernel_rfl)) (c1.store (x:=54) (by decide) (by kernel_rfl))) ne2 (.cons (aK (x:=53)) (.cons (aK (x:=54)) .nil)) rfl rfl),bF,(bc (af rfl (aE (o:=.add) (aa (x:=53)) (aa (x:=29))) (bg (aE (o:=.add) (aa (x:=54)) (aa (x:=38)))))),.nil⟩)⟩)))) (λzz=>rfl))) (ae id (aA cP) ah) ah) (ae id (kN (xs:=[28,34]) (c5 rfl (aJ (aE (o:=.sub) (aO X (g:=35) (by kernel_rfl) dg (af rfl (aa (x:=45)) (bg aj))) aj)) (c5 rfl (aJ (aE (o:=.sub) (aO X (g:=35) (by kernel_rfl) dg (af rfl (aa (x:=45)) (bg aj))) aj)) eK)) (all2 s_28 s_34) (by kernel_rfl) (by kernel_rfl) (by decide) (.cons (aK (x:=28)) (.cons (aK (x:=34)) .nil)) rfl rfl) (ae id (kN (xs:=[32,33]) (c5 rfl (aJ (aO X (g:=35) (by kernel_rfl) dg (af rfl (aa (x:=45)) (bg aj)))) (c5 rfl (aJ (aO X (g:=35) (by kernel_rfl) dg (af rfl (aa (x:=45)) (bg aj)))) eK)) (all2 s_32 s_33) (by kernel_rfl) (by kernel_rfl) (by decide) (.cons (aK (x:=32)) (.cons (aK (x:=33)) .nil)) rfl rfl) (ae id (fV (x:=66) ⟨(bx (by kernel_rfl)),rfl,by decide,(bN X.G.mods (aa (x:=52))),λzz=>rfl,(by intro _ h;exact It.oe h),(λzz c1=>⟨(cf (xs:=[53,54]) (all2 (c1.store (x:=53) (by decide) (by kernel_rfl)) (c1.store (x:=54) (by decide) (by kernel_rfl))) ne2 (.cons (aK (x:=53)) (.cons (aK (x:=54)) .nil)) rfl rfl),(gU (iZ (bJ (nu X.G.mods (o1:=.le) (o2:=.lt) (aa (x:=28)) (aa (x:=53)) (aE (o:=.add) (aa (x:=28)) (aa (x:=32))) rfl) (bJ (nu X.G.mods (o1:=.le) (o2:=.lt) (aa (x:=34)) (aa (x:=54)) (aE (o:=.add) (aa (x:=34)) (aa (x:=33))) rfl) eu)))),(bc (af rfl (aa (x:=53)) (bg (aa (x:=54))))),.nil⟩)⟩ s_66 (by kernel_rfl)) (ae id (bh (dz (cO (aO X (g:=40) (by kernel_rfl) dY (af rfl (aO X (g:=30) (by kernel_rfl) sU (af rfl (aa (x:=37)) (af rfl (aa (x:=28)) (af rfl (aa (x:=34)) (af rfl (aa (x:=32)) (bg (aa (x:=33)))))))) (bg (aa (x:=66))))) (λzz=>rfl))) (ae id (aA cP) ah) ah) (ae id (fV (x:=67) ⟨(bx (by kernel_rfl)),rfl,by decide,(fU X.G (eF X om) (af rfl (aa (x:=34)) (bg (aE (o:=.add) (aa (x:=34)) (aa (x:=33)))))),λzz=>rfl,(by intro _ h;exact It.re h),(λzz c1=>⟨(a8 (x:=54) (c1.store (x:=54) (by decide) (by kernel_rfl))),bF,(bc (af rfl (aa (x:=53)) (bg (aa (x:=54))))),(.cons rfl (fU X.G (eF X (c1.kind (k:=.globalImplicit) (by kernel_rfl) (by decide))) (af rfl (aa (x:=28)) (bg (aE (o:=.add) (aa (x:=28)) (aa (x:=32)))))) (a8 (x:=53) (c1.store (x:=53) (by decide) (by kernel_rfl))) bF (λzz=>rfl) (by decide) .nil)⟩)⟩ s_67 (by kernel_rfl)) (ae id (bh (dz (cO (aO X (g:=40) (by kernel_rfl) dY (af rfl (aO X (g:=22) (by kernel_rfl) pU (af rfl (aa (x:=28)) (af rfl (aa (x:=34)) (af rfl (aa (x:=32)) (bg (aa (x:=33))))))) (bg (aa (x:=67))))) (λzz=>rfl))) (ae id (aA cP) ah) ah) (ae id (fj (x:=68) (g8 aD) s_68 rfl) (ae id (c7 (bN X.G.mods (aa (x:=52))) (cf (xs:=[53,54]) (all2 s_53 s_54) ne2 (.cons (aK (x:=53)) (.cons (aK (x:=54)) .nil)) rfl rfl) (ae id (bh (aN X.G.mods (o:=.ne) (cQ ⟨(bx (by kernel_rfl)),rfl,by decide,(bN X.G.mods (bX (af rfl (bc (af rfl (aE (o:=.add) (aa (x:=53)) aj) (bg (aa (x:=54))))) (af rfl (bc (af rfl (aE (o:=.sub) (aa (x:=53)) aj) (bg (aa (x:=54))))) (af rfl (bc (af rfl (aa (x:=53)) (bg (aE (o:=.add) (aa (x:=54)) aj)))) (bg (bc (af rfl (aa (x:=53)) (bg (aE (o:=.sub) (aa (x:=54)) aj)))))))))),λzz=>rfl,(by intro _ h;exact It.oe h),(λzz c1=>⟨(a8 (x:=6) (c1.store (x:=6) (by decide) (by kernel_rfl))),(gU (aN X.G.mods (o:=.iW) (aa (x:=6)) (aa (x:=52)) rfl)),(aa (x:=6)),.nil⟩)⟩) (bX aD) rfl) (ae id (g9 (x:=68) (aJ (bc (af rfl (aa (x:=53)) (bg (aa (x:=54)))))) (by kernel_rfl) (by kernel_rfl) rfl (by kernel_rfl) rfl) ah) ah) ah) (λzz=>rfl)) (ae id (aA (aO X (g:=40) (by kernel_rfl) dY (af rfl (aO X (g:=33) (by kernel_rfl) ND (bg (aa (x:=37)))) (bg (aa (x:=68)))))) ah)))))))))))⟩
set_option maxHeartbeats 2000000 in
end
noncomputable def gn(g:Nat):oH:=match kX.drop g with |r::_=>r|[]=>⟨0,0,"","",0,0⟩
theorem u9(h:g<48):gn g∈kX:=by have a:=h;unfold gn;exact rl (List.drop_eq_getElem_cons a) (List.getElem_mem a)
theorem G3(h:g<48):k8 g=(gn g).st∧HB g=(gn g).qual:=by have a:=h;unfold gn k8 HB;exact rl (List.drop_eq_getElem_cons a) (⟨rfl,rfl⟩)
theorem PW{P:List Value→Prop}(h:∀a,P [a]):∀vs:List Value,vs.length=1→P vs:=λvs c=>by refine aT (List.length_eq_one_iff.mp c) λa b=>?_;clear c;subst b;exact h a
theorem QX{P:List Value→Prop}(h:∀a vs,vs.length=k→P (a::vs)):∀vs:List Value,vs.length=k+1→P vs:=λvs b=>by
 cases vs with
 |nil=>simp at b
 |cons a vs=>exact h a vs (by simpa using b)
theorem QW{P:List Value→Prop}(h:∀a b,P [a,b]):∀vs:List Value,vs.length=2→P vs:=QX λa=>PW (h a)
noncomputable def GO(s:Scope):Bool:=(match s.kind with | .function=>true|_=>false)&&(!s.isCoroutine&& !s.isGenerator)
theorem GP(e:GO s=true):s.kind= .function∧s.isCoroutine=false∧s.isGenerator=false:=by
 simp only[GO,Bool.and_eq_true,Bool.not_eq_true']at e;refine⟨?_,e.2⟩;have:=e.1;split at this
 ·assumption
 ·exact ft this
section
variable{w:World}{h₀:Heap}{mg mb:Str→Option Value}{n:Nat}{C:Mine.Sem}
theorem L6(L:ic w mg mb h₀)(i:g<48)(u:(K0 w.params).lookup (ia g)=some (gn g).obj)(f:(gn g).at_=ia g)(t:GO (nq (k8 g))=true)(s:params.Nodup)
  (r:∀L func,params.all (qC (e7 (nq (k8 g)) L (Str.ofString (HB g)++".<locals>.") func (.ref (ia g-1))))=true)
  (q:∀vs:List Value,vs.length=params.length→bindArgs (fnOf (Str.ofString (gn g).name) (Str.ofString (gn g).qual) (C9 (gn g).st) (fQ (gn g).st) (nq (gn g).st) .none .none .none (CW (gn g).mod) none (.ref ((gn g).at_-1)) .none) ⟨vs,[]⟩=pure ((params.map nm).zip vs)):
  HP (K0 w.params) h₀ (ia g) (nq (k8 g)) (.ref (ia g-1)) (Str.ofString (HB g)) params (fQ (k8 g)):=by
 refine a9 (G3 i) λj h=>bR (GP t) λm l k=>⟨(Ao (.type "function") none (#[]) (Str.ofString (gn g).name) (C9 (gn g).st) .none .none .none (h9 (CW (gn g).mod) none .none ⟨?_,λvs p=>?_⟩)),?_,m,l,k,s,λL func x o=>eM (List.all_eq_true.mp (r L func) x o)⟩
 ·refine rl u (rl j ?_);refine rl h (rr f ?_);rfl
 ·refine rl j (rl h ?_);exact rr f (q vs p)
 ·refine rl h (rr f ?_);exact L.Dl _ (u9 i)
noncomputable def w6(g:Nat):List Nat:=match bz.fns[g]? with |some fd=>fd.params|none=>[]
noncomputable def Ml(w:World)(L:Addr)(func:Option Addr)(v:Nat→Value)(g:Nat):Option Obj×Nat×Bool×Bool×Bool×PySem.Sem (List (Str×Value)):=
 ((K0 w.params).lookup (ia g),(gn g).at_,GO (nq (k8 g)),decide (w6 g).Nodup,(w6 g).all (qC (e7 (nq (k8 g)) L (Str.ofString (HB g)++".<locals>.") func (.ref (ia g-1)))),
  bindArgs (fnOf (Str.ofString (gn g).name) (Str.ofString (gn g).qual) (C9 (gn g).st) (fQ (gn g).st) (nq (gn g).st) .none .none .none (CW (gn g).mod) none (.ref ((gn g).at_-1)) .none) ⟨(List.range (w6 g).length).map v,[]⟩)
noncomputable def Mx(v:Nat→Value)(g:Nat):Option Obj×Nat×Bool×Bool×Bool×PySem.Sem (List (Str×Value)):=
 (some (gn g).obj,ia g,true,true,true,pure (((w6 g).map nm).zip ((List.range (w6 g).length).map v)))
theorem GN(L:Addr)(a:Option Addr)(v:Nat→Value):(List.range 47).map (Ml w L a v)=(List.range 47).map (Mx v):=by rfl
theorem row_eq(b:g<47)(L:Addr)(a:Option Addr)(v:Nat→Value):Ml w L a v g=Mx v g:=List.map_inj_left.mp (GN L a v) g (List.mem_range.mpr b)
theorem range_getD(vs:List Value):(List.range vs.length).map (λi=>vs.getD i .none)=vs:=by refine List.ext_getElem (by rw[List.length_map,List.length_range]) λi b a=>?_;rw[List.getElem_map,List.getElem_range,List.getD_eq_getElem?_getD,List.getElem?_eq_getElem a];rfl
theorem Nt(L:ic w mg mb h₀)(b:g<47)(e:w6 g=params):HP (K0 w.params) h₀ (ia g) (nq (k8 g)) (.ref (ia g-1)) (Str.ofString (HB g)) params (fQ (k8 g)):=by subst e;have r:=λL f v=>row_eq (w:=w) b L f v;have a:=r 0 none λc=>.none;refine L6 L (Nat.lt_succ_of_lt b) (congrArg (λx=>x.1) a) (congrArg (λx=>x.2.1) a) (congrArg (λx=>x.2.2.1) a) (of_decide_eq_true (congrArg (λx=>x.2.2.2.1) a)) (λL f=>congrArg (λx=>x.2.2.2.2.1) (r L f λc=>.none)) λvs d=>?_;have:=congrArg (λx=>x.2.2.2.2.2) (r 0 none λi=>vs.getD i .none);dsimp only[Ml,Mx]at this;rw[←d,range_getD]at this;exact this
noncomputable def Sd(w:World)(h₀:Heap)(n:Nat)(C:Mine.Sem)(g:Nat)(b:Ss):Prop:=∀L,∃op,cR w h₀ n (aV g L) true op (execs (fQ (k8 g)) (aV g L)) (cu C b)
noncomputable def HV(w:World)(h₀:Heap)(n:Nat)(C:Mine.Sem):List bq→Nat→Prop
 |[],_=>True
 |fd::r,g=>(45≤g∨Sd w h₀ n C g fd.body)∧HV w h₀ n C r (g+1)
theorem HV.c(h:Sd w h₀ n C g fd.body)(t:HV w h₀ n C r (g+1)):HV w h₀ n C (fd::r) g:=⟨.inr h,t⟩
theorem HV.at:∀{l:List bq} {g k:Nat} {fd:bq},HV w h₀ n C l g→l[k]? =some fd→g+k<45→Sd w h₀ n C (g+k) fd.body:=by
 intro l;induction l with
 |nil=>intro g k fd d e;exact no e
 |cons a l c=>
  intro g k fd h e b;cases k with
  |zero=>exact one e (h.1.resolve_left (Nat.not_le_of_lt b))
  |succ k=>exact Nat.succ_add_eq_add_succ g k▸c h.2 e (Nat.succ_add_eq_add_succ g k▸b)
theorem Sy(X:Cx w h₀ mg mb n C):HV w h₀ n C bz.fns 0:=
 .c (d0 X)<| .c (d1 X)<| .c (d2 X)<| .c (d3 X)<| .c (d4 X)<| .c (d5 X)<| .c (d6 X)<| .c (d7 X)<| .c (d8 X)<| .c (d9 X)<| .c (QZ X)<| .c (Q0 X)<| .c (Q2 X)<| .c (Q3 X)<| .c (Q4 X)<| .c (Q5 X)<| .c (Q6 X)<| .c (Q7 X)<| .c (Q8 X)<| .c (Q9 X)<| .c (Ra X)<| .c (Rb X)<| .c (Rc X)<| .c (Rd X)<| .c (Rf X)<| .c (Rh X)<| .c (Rj X)<| .c (Rk X)<| .c (Rl X)<| .c (Rn X)<| .c (Ro X)<| .c (Rp X)<| .c (Rq X)<| .c (Rr X)<| .c (Rt X)<| .c (Ru X)<| .c (Rv X)<| .c (Rw X)<| .c (Rx X)<| .c (Ry X)<| .c (Rz X)<| .c (RA X)<| .c (RB X)<| .c (RC X)<| .c (RD X)<|⟨.inl (Nat.le_refl _),.inl (Nat.le_succ _),trivial⟩
theorem Ci(L:ic w mg mb h₀)(X:Cx w h₀ mg mb n C){g:Nat}(e:bz.fns[g]? =some fd)(a:g<45):HP (K0 w.params) h₀ (ia g) (nq (k8 g)) (.ref (ia g-1)) (Str.ofString (HB g)) fd.params (fQ (k8 g))∧Sd w h₀ n C g fd.body:=
 ⟨Nt L (Nat.lt_trans a (by decide)) (by unfold w6;rw[e]),Nat.zero_add g▸(Sy X).at e ((Nat.zero_add g).symm▸a)⟩
end
noncomputable def O9(K:Frag)(g:Nat):Bool:=match K.lookup (ia g)with
 |some o=>(match o.data with | .func _=>true|_=>false)
 |none=>false
set_option tactic.hygienic true in
theorem L5{K:Frag}(e:O9 K g=true):∃o fd,K.lookup (ia g)=some o∧o.data= .func fd:=by
 unfold O9 at e;split at e
 ·rename_i o h;split at e
  ·rename_i fd a;exact(fu o fd ⟨h,a⟩)
  ·exact ft e
 ·exact ft e
noncomputable def Na(K:Frag)(c:Addr):Bool:=match clsIn K c with
 |some cd=>cd.hasDict&&onlyObject cd.mro
 |none=>false
noncomputable def Hz:Option (Option Value)→Bool
 |some none=>true
 |_=>false
set_option tactic.hygienic true in
theorem yb{K:Frag}(d:Na K (ik c)=true)(o:findIn K (.ref (ik c)) "__getattribute__"=some (some (.builtin "object.__getattribute__")))(n:findIn K (.ref (ik c)) "__getattr__"=some none)(m:keepIn K (.ref (ik c))=true)
  (l:findIn K (.ref (ik c)) "__setattr__"=some (some (.builtin "object.__setattr__")))(k:((List.range 71).all λf=>!yu c f||Hz (findIn K (.ref (ik c)) (nm f)))=true)(j:makesIn K (ik c)=true)(i:findIn K (.ref (ik c)) "__init__"=some (some (.ref (ia init))))
  (g:∀p∈ms,findIn K (.ref (ik c)) (nm p.1)=some (some (.ref (ia p.2)))):yT K c init ms:=by
 refine⟨?_,o,n,m,l,λf e=>?_,j,i,g⟩
 ·unfold Na at d;split at d
  ·rename_i q h;exact a9 (Bool.and_eq_true_iff.mp d) λa b=>⟨q,h,a,b⟩
  ·exact ft d
 ·have:=List.all_eq_true.mp k f (List.mem_range.mpr (s9 e).1);rw[e]at this;unfold Hz at this;split at this
  ·rename_i h;exact h
  ·exact ft this
theorem LX(P:Params):nE (K0 P):=
 ⟨yb (by rfl) (by rfl) (by rfl) (by rfl) (by rfl) (by rfl) (by rfl) (by rfl) (all1 (by rfl)),
  yb (by rfl) (by rfl) (by rfl) (by rfl) (by rfl) (by rfl) (by rfl) (by rfl)
  (List.forall_mem_cons.mpr ⟨by rfl,List.forall_mem_cons.mpr ⟨by rfl,List.forall_mem_cons.mpr ⟨by rfl,List.forall_mem_cons.mpr ⟨by rfl,List.forall_mem_cons.mpr ⟨by rfl,all2 (by rfl) (by rfl)⟩⟩⟩⟩⟩)⟩
theorem DQ:∀{l:List (Str×Tok)},bQ f (l.map λp=>.str p.1 p.2) (l.map λp=>.str p.1):=by
 intro l;induction l with
 |nil=>exact .nil
 |cons p l a=>exact .cons (.str _ _) a
section
variable{w:World}{h₀:Heap}{mg mb:Str→Option Value}
theorem L8(L:ic w mg mb h₀)(d:∀P∈cT,h₀.get? P=none):h8 (K0 w.params) mg mb h₀ bz.signs:=by
 refine⟨L.K,L.g,L.b,L.nolimit,L.builtins,L.mods,LX _,λg h=>L5 ?_,λP j=>?_,?_,λf i=>?_⟩
 ·have e:((List.range 47).all (O9 (K0 w.params)))=true:=by rfl
  exact List.all_eq_true.mp e g (List.mem_range.mpr h)
 ·refine HN L.bmain λt c q p b m k a=>(fu t c ⟨q,p,λz=>?_,λz=>?_,b,m,k,a⟩)
  ·refine fG L.g λo v n s r u=>?_;rw[z,s]at b
   (revert a;refine one b ?_;intro a)
   replace a:=r▸a;cases a
  ·rw[z,d P j]at b;exact no b
 ·exact L.names (Str.ofString "_law_signs",318) (by decide+kernel)
 ·exact .lst (i 318 _ (L.K 318 _ (by rfl))) (DQ (l:=[("",599),(".....",600),("#....",601),("##.##",602),("#####",603),(".###.",604),("#.#.#",605),("....#",606),("#####",607),(".###.",608)]))
set_option tactic.hygienic true in
theorem ym(n:Nat):vF (K0 w.params) (bz.sem n):=by
 have d:∀t∈bz.meths,t.2.1<71∧t.2.2<47∧findIn (K0 w.params) (.ref (ik t.1)) (nm t.2.1)=some (some (.ref (ia t.2.2)))∧typeIn (K0 w.params) (.ref (ia t.2.2))=some (.type "function")∧(t.1=0∨t.1=1):=by
  have one:∀{a:Nat×Nat×Nat} {l:List (Nat×Nat×Nat)} {P:Nat×Nat×Nat→Prop},P a→(∀t∈l,P t)→∀t∈a::l,P t:=λj i=>List.forall_mem_cons.mpr ⟨j,i⟩;exact one ⟨by decide,by decide,by rfl,by rfl,by decide⟩ (one ⟨by decide,by decide,by rfl,by rfl,by decide⟩ (one ⟨by decide,by decide,by rfl,by rfl,by decide⟩ (one ⟨by decide,by decide,by rfl,by rfl,by decide⟩
   (one ⟨by decide,by decide,by rfl,by rfl,by decide⟩ (one ⟨by decide,by decide,by rfl,by rfl,by decide⟩ (one ⟨by decide,by decide,by rfl,by rfl,by decide⟩ (one ⟨by decide,by decide,by rfl,by rfl,by decide⟩ λt h=>nomatch h)))))))
 intro c m g h;have h:bz.sY c m=some g:=by cases n<;>exact h
 unfold Prog.sY at h;split at h
 ·rename_i t e;refine one h ?_;have f:=List.find?_some e;refine a9 (Bool.and_eq_true_iff.mp f) λo k=>?_;have:=d t (List.mem_of_find?_eq_some e);rw[Nat.eq_of_beq_eq_true o,Nat.eq_of_beq_eq_true k]at this;exact this
 ·exact no h
theorem Gp(j:l.scope.kind= .function)(i:l.scope.isCoroutine=false)(h:l.scope.isGenerator=false)(g:∀(name qual:Str) (f:List (Str×Addr)) (c d e a b:Value),bindArgs (kla_fn name qual l.params l.body l.scope f c d e) ⟨[a,b],[]⟩=pure (([17,18].map nm).zip [a,b])):tO l [17,18]:=
 ⟨λname qual f c d e=>QW λa b=>g name qual f c d e a b,j,i,h,by decide⟩
theorem NG(i:l.scope.kind= .function)(h:l.scope.isCoroutine=false)(g:l.scope.isGenerator=false)(f:∀(name qual:Str) (e:List (Str×Addr)) (b c d a:Value),bindArgs (kla_fn name qual l.params l.body l.scope e b c d) ⟨[a],[]⟩=pure (([p].map nm).zip [a])):tO l [p]:=
 ⟨λname qual e b c d=>PW λa=>f name qual e b c d a,i,h,g,List.pairwise_singleton _ _⟩
theorem st2{ps:List Nat}(h:∀L qual func code,ps.all (qC (e7 scope L qual func code))=true):∀L qual func code,∀x∈ps,aG (e7 scope L qual func code) true x:=λL q f c x a=>eM (List.all_eq_true.mp (h L q f c) x a)
theorem FO(L:ic w mg mb h₀){n:Nat}(X:Cx w h₀ mg mb n (bz.sem n)):lg w h₀ (n+1) (bz.sem (n+1)):=λg p r cs e A f j i vs s R k H d m q=>by
 refine jL e (λl e=>no e) λb e=>az e λfd c e=>?_;have a:=Nat.lt_of_not_le λz=>by rw[show bz.refused.ble g=true from Nat.ble_eq.mpr z]at b;exact tf b
 have F:=Ci L X c a;exact x9 X.G F.1 (λL h=>(F.2 L).elim λo x=>⟨o,x.at _⟩) e (λenv=>k.deeper env) H d q
theorem Mn(L:ic w mg mb h₀){n:Nat}(X:Cx w h₀ mg mb n (bz.sem n)):tP w h₀ (n+1) (bz.sem (n+1)):=λc h r e A f vs s R b H a q=>by
 cases c with
 |zero=>have F:=Ci L X (g:=3) rfl (by decide);exact CZ X.G X.G.cls.walk (by rfl) F.1 (λL d=>F.2 L) e b H a q
 |succ c=>cases c with
  |zero=>have F:=Ci L X (g:=14) rfl (by decide);exact CZ X.G X.G.cls.xd (by rfl) F.1 (λL d=>F.2 L) e b H a q
  |succ c=>exact no e
noncomputable def xD(w:World)(h₀:Heap)(n:Nat)(C:Mine.Sem)(k:Nat):Prop:=
 ∀(bL:List (Nat×D)) (ds:List D) (x:D),C.lam k bL ds=some x→∀(A:Around) (f:PM) (a:Addr) (vs:List Value) (s:Shared) (R:Result→Shared→Prop),
  bO A n→Hp h₀ f [] s.heap []→bP f (.ref a) (.ie k bL)→bQ f vs ds→
  (∀f' h' tk v,Step f s.heap [] [] f' h'→Hp h₀ f' [] h' []→bP f' v x→R (.ok (.ret v)) {s with heap:=h',toks:=tk})→codeAny (model P0 w) A (.call (.ref a) ⟨vs,[]⟩) R s
theorem j3{a:eA}{P:Prop}(d:bz.zO[k]? =some a)(e:(bz.sem (n+1)).lam k bL ds=some x)(q:bL.map (λx=>x.1)=a.bL→qo (bz.sem n) a bL ds=some x→P):P:=
 az e λc b e=>by replace b:=d▸b;refine aS e λh e=>?_;cases b;exact q (of_decide_eq_true h) e
theorem pX{b:eA}(X:Cx w h₀ mg mb n (bz.sem n))(d:bz.zO[k]? =some b)(g:b.bL=[])(l:tO (fh k) b.params)(hs:∀L qual func code,b.params.all (qC (e7 (fh k).scope L qual func code))=true)
  (B:∀L qual func code,∃op',aY w h₀ n (e7 (fh k).scope L qual func code) true op' (fh k).body (aH (bz.sem n) b.body)):xD w h₀ (n+1) (bz.sem (n+1)) k:=λc ds x e A f a vs s R j H m i q=>by
 refine j3 d e λh e=>?_;have:c=[]:=List.map_eq_nil_iff.mp (h.trans g);clear d g h;subst this;exact Mg X.G l (st2 hs) B e j H m i q
theorem pZ{b:eA}(j:bz.zO[k]? =some b)(c:b.params=[])(l:b.body= .var 0)(m:0∉b.bL):xD w h₀ (n+1) (bz.sem (n+1)) k:=λg ds x e A f a vs s R y H z t q=>
 j3 j e λh e=>aS e λd e=>au e λv s e d=>by rw[c,l]at e;exact az e λu o d=>ay (List.mem_map.mp (lookup_mem o)) λp c r=>absurd (h▸List.mem_map.mpr ⟨p,c,(Prod.mk.inj r).1⟩) m
theorem CI(X:Cx w h₀ mg mb n (bz.sem n)):xD w h₀ (n+1) (bz.sem (n+1)) 4:=λb ds x e A f a vs s R j H k i q=>by
 refine j3 rfl e λg e=>?_;replace g:b.map (λx=>x.1)=[52]:=g;cases b with
 |nil=>exact nomatch g
 |cons p b=>cases b with
  |cons _ _=>exact nomatch (List.cons.inj g).2
  |nil=>obtain⟨y,d⟩:=p;have h:y=52:=List.head_eq_of_cons_eq g;clear g;subst h;exact Gr X.G (NG rfl (by rfl) (by rfl) λc c c c c c c=>by rfl) rfl (by decide) (by decide) (by decide) (λc c=>by rfl) (by rfl) (by rfl) (Nh X) e j H k i q
theorem Mh(X:Cx w h₀ mg mb n (bz.sem n)):Ar w h₀ (n+1) (bz.sem (n+1)):=by
 have b:∀k,xD w h₀ (n+1) (bz.sem (n+1)) k:=λk=>by
  cases k with
  |zero=>exact pX X rfl rfl (Gp (by rfl) (by rfl) (by rfl) λa a a a a a a a=>by rfl) (λa a a a=>by rfl) (Nc X)
  |succ k=>cases k with
  |zero=>exact pX X rfl rfl (Gp (by rfl) (by rfl) (by rfl) λa a a a a a a a=>by rfl) (λa a a a=>by rfl) (Nd X)
  |succ k=>cases k with
  |zero=>exact pX X rfl rfl (Gp (by rfl) (by rfl) (by rfl) λa a a a a a a a=>by rfl) (λa a a a=>by rfl) (Nf X)
  |succ k=>cases k with
  |zero=>exact pX X rfl rfl (Gp (by rfl) (by rfl) (by rfl) λa a a a a a a a=>by rfl) (λa a a a=>by rfl) (Ng X)
  |succ k=>cases k with
  |zero=>exact CI X
  |succ k=>cases k with
  |zero=>exact pX X rfl rfl (NG (by rfl) (by rfl) (by rfl) λa a a a a a a=>by rfl) (λa a a a=>by rfl) (Ni X)
  |succ k=>cases k with
  |zero=>exact pZ rfl rfl rfl (by decide)
  |succ k=>cases k with
  |zero=>exact pZ rfl rfl rfl (by decide)
  |succ k=>cases k with
  |zero=>exact pZ rfl rfl rfl (by decide)
  |succ k=>exactλc ds x e=>no e
 exact b
theorem Nb(L:ic w mg mb h₀)(b:∀P∈cT,h₀.get? P=none):∀n,Cx w h₀ mg mb n (bz.sem n):=by
 intro n;induction n with
 |zero=>exact⟨L8 L b,L.names,L.frees,λa a a a e=>(nomatch e),λa a a e=>(nomatch e),λa a a a e=>(nomatch e),ym 0,rfl,L.hd⟩
 |succ n X=>exact⟨X.G,L.names,L.frees,FO L X,Mn L X,Mh X,ym _,rfl,L.hd⟩
end
section
variable{w:World}{h₀:Heap}{mg mb:Str→Option Value}{n:Nat}{f:PM}{as:List (Addr×Addr)}{σ:ak}{A:Around}{E:Value→Shared→Prop}{s:Shared}{env:Env}{op:Bool}{ρ:aB}
theorem u0(L:ic w mg mb h₀)(G:h8 (K0 w.params) mg mb h₀ bz.signs)(q:env.kindOf (Str.ofString "SizeFault")=some .globalImplicit)(l:bO A (n+1))(H:Hp h₀ f as s.heap σ)(V:Vr op f as env s.heap ρ)
  (r:∀h' tk' e t0 dx,(∀b o,s.heap.get? b=some o→h'.get? b=some o)→s.heap.get? e=none→h'.get? e=some (pD t0 dx)→E (.ref e) {s with heap:=h',toks:=tk'}):
  wpAny (model P0 w) A (exec (.Raise (some (.Call (.Name (Str.ofString "SizeFault") np) [.Constant (.str (Str.ofString m)) k cp] [] cpos)) none pos) env) Q E s:=by
 rw[arm_exec_Raise];refine wpAny_bind (wpAny_standAt (nV l.hd ?_));have t:mg (Str.ofString "SizeFault")=some (.ref 44):=L.names (Str.ofString "SizeFault",44) (by decide+kernel);refine wpAny_bind (wpAny_mono (wpAny_Call_Name_kw (dD G H V.ok q (by decide+kernel) t ?_)) (λv d c=>wpAny_bind (wpAny_standAt (wpAny_pure c))) λp p x=>x);have X:=H.qX G.X;refine callWith_of (P:=λh=>(K0 w.params).In h) rfl (keeps_K rfl) ?_;refine evalArgs_plain ?_;refine spliced_cons (wpAny_Constant_str (k:=k) (pos:=cp) (spliced_nil ⟨X,?_⟩));refine wpAny_call (wH (J4 l.depth) X (G.nolimit.keeps H.all) ((L.Dl Di (u9 (g:=47) (by decide))).keeps H.all) λh' tk' e t0 dx i u j=>?_);exact(h9 e t0 dx ⟨rfl,yq λa o x=>i _ _ (X a o x),j,r h' tk' e t0 dx i u j⟩)
end
noncomputable abbrev frs(outer:List Env):List Addr:=outer.filterMap (λx=>x.frame)
noncomputable def gz(h₀:Heap)(outer:List Env)(g:Heap):Prop:=∀env∈outer,env.scope.kind= .function∧∃L o,env.frame=some L∧h₀.get? L=none∧g.get? L=some o∧∀vs,o.data≠.fields vs
noncomputable def gW(outer:List Env)(g:Heap)(e:Addr)(h:Heap):Prop:=∃base a0,(∀b o,g.get? b=some o→b∉frs outer→base.get? b=some o)∧g.UpToSlots h∧Heap.FlyingW base outer e (.ref 44) a0 h
theorem gz.keeps{h₀:Heap}(F:gz h₀ outer g)(k:∀b o,g.get? b=some o→h.get? b=some o):gz h₀ outer h:=λenv f=>
 let⟨a,L,o,b,c,d,e⟩:=F env f;⟨a,L,o,b,c,k _ _ d,e⟩
theorem gz.fun{h₀ h:Heap}:∀{outer:List Env},gz h₀ outer g→(∀L∈frs outer,h.get? L=none)→g.FunFrames h outer:=by
 intro outer;induction outer with
 |nil=>intro _ _;trivial
 |cons env l n=>refineλF k=>a9 (F env (.head _)) λa m=>D6 m λL o b c d e=>⟨by refine rl a ?_;decide,(fu L o ⟨b,k L (List.mem_filterMap.mpr ⟨env,.head _,b⟩),d,e⟩),n (λx j=>F x (.tail _ j)) λq h'=>k q ?_⟩;exact ay (List.mem_filterMap.mp h') λx j p=>List.mem_filterMap.mpr ⟨x,.tail _ j,p⟩
section
variable{w:World}{h₀:Heap}{A:Around}{E:Value→Shared→Prop}{s:Shared}{env:Env}{outer:List Env}{L e:Addr}{Q:Unit→Shared→Prop}
theorem tB{d:Heap}(h:A.frames=some outer)(F:gz h₀ (env::outer) d)(G:env.frame=some L)(J:g.get? L=none)(p:∀b o,g.get? b=some o→d.get? b=some o)
  (j:∀b o,d.get? b=some o→s.heap.get? b=some o)(v:d.get? e=none)(H:s.heap.get? e=some (pD t0 dx))(D:∀h',gW outer g e h'→Q () {s with heap:=h'}):
  wpAny (model P0 w) (A.deeper env) (leaving env (.ref e)) Q E s:=by
 have a:∀b o,(hideAll d (frs (env::outer))).get? b=some o→d.get? b=some o:=λb o q=>of_hideAll _ q;have u:(hideAll d (frs (env::outer))).get? e=none:=by
  cases q:(hideAll d (frs (env::outer))).get? e with
  |none=>rfl
  |some o=>rw[a _ _ q]at v;exact on v
 refine wpAny_leaving_firstW (a0:=.ref t0) (Around.frames_deeper h) ((F.keeps j).fun λL k=>hideAll_none _ k) G H (λb o q=>j _ _ (a b o q)) u rfl rfl rfl λh' k=>lR k λC f z y=>bR f λn n B=>D h' (fu _ _ ⟨λb o t I=>hideAll_get _ (p b o t) λm=>?_,(Heap.UpToSlots.of_keeps λb o q=>j _ _ (p b o q)).trans y,C,u,B,z⟩);refine ay (List.mem_filterMap.mp m) λx r l=>?_;clear h F p j v H D a u k C f z y n B m;clear n;rcases List.mem_cons.mp r with rfl|r
 ·replace l:=G▸l;cases l;rw[J]at t;exact no t
 ·exact I (List.mem_filterMap.mpr ⟨x,r,l⟩)
theorem u4(a:A.frames=some outer)(r:env.frame=some L)(v:g.get? L=none)(f:∀b o,g.get? b=some o→g2.get? b=some o)(X:gW (env::outer) g2 e s.heap)
  (q:∀h',gW outer g e h'→Q () {s with heap:=h'}):wpAny (model P0 w) (A.deeper env) (leaving env (.ref e)) Q E s:=by
 refine fP X λc a0 p n l=>wpAny_leaves_onW (Around.frames_deeper a) r l λh' k j=>q h' (fu c a0 ⟨λb o i u=>p b o (f b o i) λm=>?_,((Heap.UpToSlots.of_keeps f).trans n).trans j,k⟩);refine ay (List.mem_filterMap.mp m) λx h d=>?_;clear a f X q p n l k j m;rcases List.mem_cons.mp h with rfl|h
 ·replace d:=r▸d;cases d;rw[v]at i;exact no i
 ·exact u (List.mem_filterMap.mpr ⟨x,h,d⟩)
end
noncomputable def Av(env:Env)(outer:List Env)(h1:Heap)(e:Addr)(h2:Heap):Prop:=
 (∃(h3:Heap) (t0 dx:Addr),(∀b o,h1.get? b=some o→h3.get? b=some o)∧(∀b o,h3.get? b=some o→h2.get? b=some o)∧h3.get? e=none∧h2.get? e=some (pD t0 dx))∨∃g2:Heap,(∀b o,h1.get? b=some o→g2.get? b=some o)∧gW (env::outer) g2 e h2
section
variable{w:World}{h₀:Heap}{mg mb:Str→Option Value}{n:Nat}{f:PM}{A:Around}{E:Value→Shared→Prop}{s:Shared}{env:Env}{outer:List Env}{R:Result→Shared→Prop}
theorem pK(H:Hp h₀ f as s.heap [])(V:Vr op f as env h1 ρ)(i:env.frame=some L)(g:env.locals=L)(h:env.scope.kind= .function)(d:s.heap.get? L=none)(k:∀b o,s.heap.get? b=some o→h1.get? b=some o)(l:gz h₀ outer s.heap):gz h₀ (env::outer) h1:=by
 refineλx a=>Or.elim (List.mem_cons.mp a) (λc=>?_) λa=>?_
 ·subst c;refine rT V.ns λm o p n e j c=>?_;rw[g]at e;refine⟨h,L,o,i,?_,e,λvs q=>by replace q:=j▸q;cases q⟩;cases q:h₀.get? L with
  |none=>rfl
  |some o=>rw[H.all _ _ q]at d;exact on d
 ·exact l.keeps k x a
theorem lE(h:A.frames=some outer)(F:gz h₀ (env::outer) h1)(l:env.frame=some L)(m:g.get? L=none)(j:∀b o,g.get? b=some o→h1.get? b=some o)(I:Av env outer h1 e s.heap)
  (k:∀h',gW outer g e h'→Q () {s with heap:=h'}):wpAny (model P0 w) (A.deeper env) (leaving env (.ref e)) Q E s:=by
 refine Or.elim I (λi=>?_) λi=>?_
 ·exact iL i λr p dx a b c d=>tB h (F.keeps a) l m (λb o q=>a b o (j b o q)) b c d k
 ·exact ay i λt a b=>u4 h l m (λb o q=>a b o (j b o q)) b k
theorem pn{c:Value}(G:h8 (K0 w.params) mg mb h₀ bz.signs)(F:HP (K0 w.params) h₀ a scope c qual params body)
  (k:A.frames=some outer)(U:gz h₀ outer s.heap)(u:bO A (n+1))(H:Hp h₀ f [] s.heap [])(r:bQ f vs ds)(m:ds.length=params.length)
  (B:∀(L:Addr) (d:Heap) (g:Nat),Hp h₀ f [] d []→Vr true f [] (e7 scope L (qual++".<locals>.") (some a) c) d (params.zip (ds.map V.d))→(∀b o,s.heap.get? b=some o→d.get? b=some o)→gz h₀ (e7 scope L (qual++".<locals>.") (some a) c::outer) d→
   bO (A.deeper (e7 scope L (qual++".<locals>.") (some a) c)) n→∀(Q':Flow→Shared→Prop) (y:Value→Shared→Prop),(∀e h2 G9,Av (e7 scope L (qual++".<locals>.") (some a) c) outer d e h2→y (.ref e) {s with heap:=h2,toks:=G9})→
   wpAny (model P0 w) (A.deeper (e7 scope L (qual++".<locals>.") (some a) c)) (execs body (e7 scope L (qual++".<locals>.") (some a) c)) Q' y {s with heap:=d,toks:=g})
  (K:∀e h' tk',gW outer s.heap e h'→R (.error (.ref e)) {s with heap:=h',toks:=tk'}):codeAny (model P0 w) A (.call (.ref a) ⟨vs,[]⟩) R s:=by
 refine nR F.at_ λY X D l j dV Z Q z=>jE z λW an ct P N=>?_;have O:=H.qX G.X;refine codeAny_call_function (vP u.depth) (O _ _ P) rfl F.co F.gen rfl (F.Mv.keeps H.all) ?_;refine rl (N vs (by refine rl r.length ?_;exact m)) ?_;refine wpAny_pure ?_;refine a9 (DW (xs:=params) (ds:=ds.map V.d) (by rw[List.length_map];exact m.symm)) λi C=>?_;have J:(params.map nm).zip vs=((params.zip (ds.map V.d)).map λp=>nm p.1).zip vs:=by
  have:((params.zip (ds.map V.d)).map λp=>nm p.1)=((params.zip (ds.map V.d)).map (λx=>x.1)).map nm:=by refine rl List.map_map ?_;rfl
  rw[this,i]
 refine rl J ?_;refine iU F.kind H (by refine rl C ?_;exact cV.of' r) (rl i F.nodup) (λp M=>F.store _ _ p.1 (rr i (List.mem_map.mpr ⟨p,M,rfl⟩))) λd g T t h S=>?_;refine⟨(G.nolimit.keeps H.all).keeps h,codeAny_func ?_⟩;have q:s.heap.get? s.heap.objs.size=none:=aq (Nat.le_refl _);have v:=pK H t rfl rfl F.kind q h U;exact B _ d g T t h v (u.deeper _) _ _ λe h2 G9 I=>lE k v rfl q h I λh' x=>K e h' G9 x
end
noncomputable def vE(b:List Stmt):Prop:=∃p1 p2 p3 p4 p5 p6 p7 p8 p9 Sv Sw Sx k1 k2 k3 rest,b= .If (.BoolOp .Or [.Compare (.Name (nm 32) p1) [.Lt] [.Constant (.int 0) k1 p2] p3,.Compare (.Name (nm 33) p4) [.Lt] [.Constant (.int 0) k2 p5] p6] p7) [.Raise (some (.Call (.Name (Str.ofString "SizeFault") p8) [.Constant (.str (Str.ofString "a rectangle of a size below 0")) k3 p9] [] Sv)) none Sw] [] Sx::rest
theorem Gg:vE (fQ (k8 22)):=(Ao _ _ _ _ _ _ _ _ (Ao _ _ _ _ _ _ _ _ rfl))
theorem Gh:vE (fQ (k8 30)):=(Ao _ _ _ _ _ _ _ _ (Ao _ _ _ _ _ _ _ _ rfl))
section
variable{w:World}{h₀:Heap}{mg mb:Str→Option Value}{n:Nat}{f:PM}{A:Around}{E:Value→Shared→Prop}{s:Shared}{env:Env}{outer:List Env}{op:Bool}{ρ:aB}
theorem CT(G:i7 h₀)(b:bO A n)(H:Hp h₀ f [] s.heap [])(V:Vr op f [] env s.heap ρ)(e:ρ.lookup x=some (.d (.int i)))(q:∀tk,Q (decide (i<0)) {s with toks:=tk}):
  wpAny (model P0 w) A (isTrue (.Compare (.Name (nm x) p1) [.Lt] [.Constant (.int 0) k p2] p3) env (eval (.Compare (.Name (nm x) p1) [.Lt] [.Constant (.int 0) k p2] p3) env)) Q E s:=by
 refine wpAny_isTrue_Compare1 (eI V e λu o1=>wpAny_Constant_int (iO (o:=.lt) G b rfl H (.inl o1) (.inl (.int _ _)) λa=>wpAny_truthy_bool (q a)))
theorem mx{b:List Stmt}(t:vE b)(L:ic w mg mb h₀)(G:h8 (K0 w.params) mg mb h₀ bz.signs)(D:env.kindOf (Str.ofString "SizeFault")=some .globalImplicit)(o:bO A (n+1))(H:Hp h₀ f [] s.heap [])(V:Vr op f [] env s.heap ρ)(K:ρ.lookup 32=some (.d (.int i)))(J:ρ.lookup 33=some (.d (.int j)))(m:i<0∨j<0)
  (I:∀e h2 G9,Av env outer s.heap e h2→E (.ref e) {s with heap:=h2,toks:=G9}):wpAny (model P0 w) A (execs b env) Q E s:=by
 refine nR t λU T S R P O N z p=>nR p λy l k B r W C a d=>?_;clear t p;subst d;have c:∀tk,wpAny (model P0 w) A (execs [.Raise (some (.Call (.Name (Str.ofString "SizeFault") z) [.Constant (.str (Str.ofString "a rectangle of a size below 0")) C y] [] l)) none k] env) (λf q=>match f with | .next=>wpAny (model P0 w) A (execs a env) Q E q|f=>Q f q) E {s with toks:=tk}:=λtk=>
  wpAny_execs_cons (u0 L G D o H V λh' g e v dx r M F=>I e h' g (.inl (h9 s.heap v dx ⟨λu u x=>x,r,M,F⟩)))
 refine wpAny_execs_cons (wpAny_If (wpAny_isTrue_BoolOp (wpAny_allTrue_Or_cons (CT G.mods o H V K λtk=>?_))));cases h:decide (i<0)with
 |true=>refine rl (if_pos rfl) (rl (if_pos rfl) ?_);exact c tk
 |false=>refine rl (if_neg (by decide)) ?_;refine wpAny_allTrue_Or_cons (CT G.mods o H V J λG9=>?_);refine rl (decide_eq_true (m.resolve_left (of_decide_eq_false h))) (rl (if_pos rfl) ?_);refine rl (if_pos rfl) ?_;exact c G9
end
section
variable{w:World}{h₀:Heap}{mg mb:Str→Option Value}{n:Nat}{f:PM}{A:Around}{E:Value→Shared→Prop}{s:Shared}{env:Env}{outer:List Env}{op:Bool}{ρ:aB}{R:Result→Shared→Prop}
theorem u5(L:ic w mg mb h₀)(G:h8 (K0 w.params) mg mb h₀ bz.signs)(c:A.frames=some outer)(u:gz h₀ outer s.heap)(q:bO A (n+2))(H:Hp h₀ f [] s.heap [])(o:bQ f vs [.int l,.int t,.int i,.int j])(b:i<0∨j<0)
  (h:∀e h' tk',gW outer s.heap e h'→R (.error (.ref e)) {s with heap:=h',toks:=tk'}):codeAny (model P0 w) A (.call (.ref (ia 22)) ⟨vs,[]⟩) R s:=
 pn G (Nt L (by decide) rfl) c u q H o rfl
  (λv y g r p x z d Q' B k=>mx Gg L G rfl d r p rfl rfl b λe m a I=>k e m a I) h
theorem wu(L:ic w mg mb h₀)(G:h8 (K0 w.params) mg mb h₀ bz.signs)(c:A.frames=some outer)(v:gz h₀ outer s.heap)(r:bO A (n+2))(H:Hp h₀ f [] s.heap [])(p:bQ f vs [d,.int l,.int t,.int i,.int j])(b:i<0∨j<0)
  (k:∀e h' tk',gW outer s.heap e h'→R (.error (.ref e)) {s with heap:=h',toks:=tk'}):codeAny (model P0 w) A (.call (.ref (ia 30)) ⟨vs,[]⟩) R s:=
 pn G (Nt L (by decide) rfl) c v r H p rfl
  (λx z h u q y B g Q' C m=>mx Gh L G rfl g u q rfl rfl b λe o a I=>m e o a I) k
inductive oN:List Expr→List Int→Prop
 |nil:oN [] []
 |pos {i:Int} {k:Nat} {p:Pos} {l:List Expr} {is:List Int}:oN l is→oN (.Constant (.int i) k p::l) (i::is)
 |neg {i:Int} {k:Nat} {p q:Pos} {l:List Expr} {is:List Int}:oN l is→oN (.UnaryOp .USub (.Constant (.int i) k p) q::l) (-i::is)
theorem yl(x:oN l is):∀{pos:Pos} {s:Shared} {Q:List Value→Shared→Prop},(∀tk vs,bQ f vs (is.map D.int)→Q vs {s with toks:=tk})→wpAny (model P0 w) A (spliced (backTo pos (starEach l env))) Q E s:=by
 induction x with
 |nil=>intro pos s Q q;exact spliced_nil (q s.toks [] .nil)
 |@pos i k p _ _ x a=>intro pos s Q q;exact spliced_cons (wpAny_Constant_int (k:=k) (pos:=p) (a λtk vs d=>q tk _ (.cons (.int _ _) d)))
 |@neg i k p b _ _ x a=>intro pos s Q q;exact spliced_cons (wpAny_UnaryOp (wpAny_Constant_int (neg_int (a (s:={s with toks:=s.toks+1+1}) λtk vs d=>q tk _ (.cons (.int _ _) d)))))
end
theorem M2:∃np pos l,(fh 6).body= .Call (.Name (Str.ofString "of_rectangle") np) l [] pos∧oN l [0,0,-1,2]:=(h9 _ _ _ ⟨rfl,.pos (.pos (.neg (.pos .nil)))⟩)
theorem M3:∃np pos l,(fh 7).body= .Call (.Name (Str.ofString "of_rectangle") np) l [] pos∧oN l [0,0,2,-1]:=(h9 _ _ _ ⟨rfl,.pos (.pos (.pos (.neg .nil)))⟩)
theorem M4:∃np fp pos l,(fh 8).body= .Call (.Name (Str.ofString "region_cut") np) (.Name (nm 1) fp::l) [] pos∧oN l [0,0,-1,1]:=(jC _ _ _ _ ⟨rfl,.pos (.pos (.neg (.pos .nil)))⟩)
section
variable{w:World}{h₀:Heap}{mg mb:Str→Option Value}{n:Nat}{f:PM}{A:Around}{E:Value→Shared→Prop}{s:Shared}{env:Env}{outer:List Env}{op:Bool}{ρ:aB}{R:Result→Shared→Prop}
theorem uM(x:oN l is):∀pos,(backTo pos (starEach l env)).any (λx=>x.1)=false:=by
 induction x with
 |nil=>intro pos;rfl
 |pos x a=>intro pos;exact a pos
 |neg x a=>intro pos;exact a pos
theorem mh(e:(backTo pos (starEach l env)).any (λx=>x.1)=false)
  (d:wpAny (model P0 w) A (spliced (backTo pos (starEach l env))) (λvs c=>(c.heap.get? a=some o∧o.data= .func fd)∧wpAny (model P0 w) A (call (.ref a) ([]++vs)) Q E c) E s):
  wpAny (model P0 w) A (callWith pos (.ref a) [] (backTo pos (starEach l env)) (backToKw pos (keywordEach [] env))) Q E s:=by
 refine callWith_function_kw (o:=o) (fd:=fd) ?_;generalize backTo pos (starEach l env)=ts at d e;cases ts with
 |nil=>exact evalArgs_none d
 |cons t r=>
  obtain⟨b,x⟩:=t;cases b with
  |true=>rw[List.any_cons]at e;exact tf e
  |false=>exact evalArgs_plain d
theorem uJ(L:ic w mg mb h₀)(G:h8 (K0 w.params) mg mb h₀ bz.signs)(d:A.frames=some outer)(Fo:gz h₀ outer s.heap)(F:bO A (n+3))(H:Hp h₀ f [] s.heap [])(K:bP f (.ref a) (.ie k []))
  (g:tO (fh k) [])(U:∃np pos l,(fh k).body= .Call (.Name (Str.ofString "of_rectangle") np) l [] pos∧oN l [0,0,i,j])(q:i<0∨j<0)(P:∀L qual func code,(e7 (fh k).scope L qual func code).kindOf (Str.ofString "of_rectangle")=some .globalImplicit)
  (Q:∀e h' tk',gW outer s.heap e h'→R (.error (.ref e)) {s with heap:=h',toks:=tk'}):codeAny (model P0 w) A (.call (.ref a) ⟨[],[]⟩) R s:=by
 refine nR K.zo λy qual cl pm ct c' O t v=>D5 v λu a1 a2 a3 a4 a5=>?_;clear K v;cases a5;refine jE U λnp pos l X z=>kla_callFunE (Bx F.depth) (H.on _ _ a1) rfl g.co g.gen rfl (jC c' O t u ⟨rfl,H.on _ _ a2,a3,a4⟩) ?_;refine rl (g.bind _ _ _ _ _ _ [] rfl) ?_;refine wpAny_pure ?_;refine iU (ps:=[]) g.kind H .nil List.nodup_nil (λp S=>nomatch S) λB N h D m Z=>⟨(G.nolimit.keeps H.all).keeps m,kla_codeExpr ?_⟩;have C:s.heap.get? s.heap.objs.size=none:=aq (Nat.le_refl _);have J:=pK H D rfl rfl g.kind C m Fo;refine rl X ?_;have W:mg (Str.ofString "of_rectangle")=some (.ref (ia 22)):=L.names (Str.ofString "of_rectangle",ia 22) (by decide+kernel);refine wpAny_Call_Name_kw (dD G h D.ok (P _ _ _ _) (by decide+kernel) W ?_);refine cJ (G.fns 22 (by decide)) λo fd T r=>mh (uM z _) (yl (f:=f) z λtk vs Y=>⟨⟨h.on _ _ (h.base _ _ (G.X _ _ T)),r⟩,?_⟩);refine wpAny_call (u5 (s:={s with heap:=B,toks:=tk}) L G (Around.frames_deeper d) J (F.deeper _) h Y q λe V c I=>?_);exact lE (s:={s with heap:=V,toks:=c}) d J rfl C m (.inr ⟨B,λM M x=>x,I⟩) λh' x=>Q e h' c x
end
section
variable{w:World}{h₀:Heap}{mg mb:Str→Option Value}{n:Nat}{f:PM}{A:Around}{E:Value→Shared→Prop}{s:Shared}{env:Env}{outer:List Env}{R:Result→Shared→Prop}
theorem Gq(L:ic w mg mb h₀)(G:h8 (K0 w.params) mg mb h₀ bz.signs)(v:A.frames=some outer)(Fo:gz h₀ outer s.heap)(Rm:bO A (n+3))(H:Hp h₀ f [] s.heap [])(D0:bP f (.ref a) (.ie 8 [(1,d)]))(k:tO (fh 8) [])
  (t:(fh 8).scope.names.all (λx=>match x.2 with | .cell=>false|_=>true)=true)(D:(fh 8).scope.names.lookup (nm 1)=some .free)(C:(fh 8).scope.names.lookup (Str.ofString "region_cut")=some .globalImplicit)
  (hq:∀e h' tk',gW outer s.heap e h'→R (.error (.ref e)) {s with heap:=h',toks:=tk'}):codeAny (model P0 w) A (.call (.ref a) ⟨[],[]⟩) R s:=by
 refine nR D0.zo λT S cl pm ct c' oc N zq=>?_;obtain⟨O,a1,Z,Y,X,a5⟩:=zq;cases a5 with
 |@cons _ c i u _ _ _ fc dc du p=>
 cases p;refine tN M4 λnp fp pos l V U=>kla_callFunE (Bx Rm.depth) (H.on _ _ a1) rfl k.co k.gen rfl (jC c' oc N O ⟨rfl,H.on _ _ Z,Y,X⟩) ?_;refine rl (k.bind _ _ _ _ _ _ [] rfl) ?_;refine wpAny_pure ?_;refine wpAny_newFunctionEnv (λx j hc=>by have:=List.all_eq_true.mp t x j;rw[hc]at this;exact ft this) (λx j=>nomatch j) (λJ hn hs=>?_) k.kind;have K:s.heap.get? s.heap.objs.size=none:=aq (Nat.le_refl _);have z:∀b o,s.heap.get? b=some o→J.get? b=some o:=λb o e=>(hs.2 b (Nat.ne_of_lt (Heap.lt_size e))).trans (Heap.get?_push_of_some _ e);refine⟨(G.nolimit.keeps H.all).keeps z,kla_codeExpr ?_⟩;have y:=H.keeps z;refine rl V ?_;generalize g:newEnv _ _ _ _ _ _ _ _ _=env;have M:env.scope=(fh 8).scope:=by refine rr g ?_;rfl
 have W:env.frame=some s.heap.objs.size:=by refine rr g ?_;rfl
 have e3:env.cells=[(nm 1,c)]:=by refine rr g ?_;rfl
 have P:jq env:=⟨rl M k.kind,by refine rr g ?_;rfl,by refine rr g ?_;rfl⟩;have F1:gz h₀ (env::outer) J:=by
  intro x j;clear D0 k t Z Y X a1 V hs g;rcases List.mem_cons.mp j with rfl|j
  ·refine fG hn λo es m g1 g2 Q=>⟨P.kind,s.heap.objs.size,o,W,?_,g1,λvs q=>by replace q:=g2▸q;cases q⟩;cases q:h₀.get? s.heap.objs.size with
   |none=>rfl
   |some o=>rw[H.all _ _ q]at K;exact on K
  ·exact Fo.keeps z x j
 have eg:=L.names (Str.ofString "region_cut",ia 30) (by decide+kernel);refine wpAny_Call_Name_kw (dD G y P (by unfold Env.kindOf;exact rl M C) (by decide+kernel) eg ?_);refine cJ (G.fns 30 (by decide)) λo fd ho F=>mh (o:=o) (fd:=fd) (uM U _) ?_;refine spliced_cons (wpAny_Name (lF P (.inr ⟨.inr (by unfold Env.kindOf;exact rl M D),c,by refine rl e3 (rl List.lookup_cons ?_);rfl,⟨i,y.on _ _ fc,dc⟩⟩) (jj 1 (by decide)) ?_) (mH 1 (by decide)));refine yl (f:=f) U λtk vs dv=>⟨⟨y.on _ _ (y.base _ _ (G.X _ _ ho)),F⟩,?_⟩;refine wpAny_call (wu L G (Around.frames_deeper v) F1 (Rm.deeper _) y (.cons du dv) (.inl (by decide)) λe h2 B I=>?_);exact lE v F1 W K z (.inr ⟨J,λQ Q x=>x,I⟩) λh' x=>hq e h' B x
end
section
variable{w:World}{h₀:Heap}{mg mb:Str→Option Value}{n:Nat}{f:PM}{A:Around}{E:Value→Shared→Prop}{s:Shared}{env:Env}{outer:List Env}{R:Result→Shared→Prop}
theorem C0(L:ic w mg mb h₀)(G:h8 (K0 w.params) mg mb h₀ bz.signs)(j:A.frames=some outer)(o:gz h₀ outer s.heap)(m:bO A (n+3))(H:Hp h₀ f [] s.heap [])(p:bP f (.ref a) (.ie k bL))(x:(k=6∧bL=[])∨(k=7∧bL=[])∨(k=8∧∃d,bL=[(1,d)]))
  (l:∀e h' tk',gW outer s.heap e h'→R (.error (.ref e)) {s with heap:=h',toks:=tk'}):codeAny (model P0 w) A (.call (.ref a) ⟨[],[]⟩) R s:=by
 have b:∀{P:List Value→Prop},P []→∀vs:List Value,vs.length=0→P vs:=λh vs v=>by exact rl (List.length_eq_zero_iff.mp v) h
 rcases x with⟨rfl,rfl⟩|⟨rfl,rfl⟩|⟨rfl,d,rfl⟩
 ·exact uJ L G j o m H p ⟨λg c u q r t=>b (by rfl),by rfl,by rfl,by rfl,List.nodup_nil⟩ M2 (.inl (by decide)) (λi i i i=>by rfl) l
 ·exact uJ L G j o m H p ⟨λg c u q r t=>b (by rfl),by rfl,by rfl,by rfl,List.nodup_nil⟩ M3 (.inr (by decide)) (λi i i i=>by rfl) l
 ·exact Gq L G j o m H p ⟨λg c u q r t=>b (by rfl),by rfl,by rfl,by rfl,List.nodup_nil⟩ (by rfl) (by rfl) (by rfl) l
theorem LP:∃cp P1 ep xp hp tp p1 p2 k1 k2 rest,fQ (k8 45)= .Try [.Expr (.Call (.Name (nm 69) cp) [] [] P1) ep] [.ExceptHandler (some (.Name (Str.ofString "SizeFault") xp)) none [.Return (some (.Constant (.bool true) k1 p1)) p2] hp] [] [] tp::rest∧k1=k2:=(Ao _ _ _ _ _ _ _ _ (h9 _ _ _ ⟨rfl,rfl⟩))
end
section
variable{w:World}{h₀:Heap}{mg mb:Str→Option Value}{n:Nat}{f:PM}{A:Around}{E:Value→Shared→Prop}{s:Shared}{env:Env}{outer:List Env}{R:Result→Shared→Prop}
theorem w9(L:ic w mg mb h₀)(G:h8 (K0 w.params) mg mb h₀ bz.signs)(K:A.frames=some outer)(Fo:gz h₀ outer s.heap)(Rm:bO A (n+4))(H:Hp h₀ f [] s.heap [])(D0:bP f v (.ie k bL))(hk:(k=6∧bL=[])∨(k=7∧bL=[])∨(k=8∧∃d,bL=[(1,d)]))
  (hq:∀h' tk',(∀b o,s.heap.get? b=some o→b∉frs outer→h'.get? b=some o)→s.heap.UpToSlots h'→R (.ok (.ret (.bool true))) {s with heap:=h',toks:=tk'}):codeAny (model P0 w) A (.call (.ref (ia 45)) ⟨[v],[]⟩) R s:=by
 have F:=Nt L (g:=45) (by decide) rfl;refine nR F.at_ λoc od osl name C8 dV kV doc D=>jE D λpm an ct hK z=>?_;have hX:=H.qX G.X;refine codeAny_call_function (Lx Rm.depth) (hX _ _ hK) rfl F.co F.gen rfl (F.Mv.keeps H.all) ?_;refine rl (z [v] rfl) ?_;refine wpAny_pure ?_;refine iU (ps:=[(69,.d (.ie k bL))]) F.kind H (.cons D0 .nil) (List.pairwise_singleton _ _) (λp hp=>by refine rl (List.mem_singleton.mp hp) ?_;exact F.store _ _ 69 (.head _)) λh1 DZ X N O adr=>?_;refine⟨(G.nolimit.keeps H.all).keeps O,codeAny_func ?_⟩;have gL:s.heap.get? s.heap.objs.size=none:=aq (Nat.le_refl _);have Y:=pK H N rfl rfl F.kind gL O Fo;generalize y:newEnv _ s.heap.objs.size mainGlobals _ _ _ _ _ _=env at N Y⊢;have kS:env.kindOf (Str.ofString "SizeFault")=some .globalImplicit:=by refine rr y ?_;rfl
 have fr:env.frame=some s.heap.objs.size:=by refine rr y ?_;rfl
 have hi:interactive env=false:=by refine rr y ?_;rfl
 clear y;refine nR LP λcp P1 ep xp hp tp p1 p2 D=>jE D λkk k2 rest eb i=>rl eb ?_;refine wpAny_execs_cons (wpAny_Try_except (wpAny_execs_cons (wpAny_Expr (wpAny_Call_Name_kw (eI N rfl λu o1=>?_)) hi rfl)));clear Fo H D0 F hK hX adr hi eb;obtain⟨a,rfl⟩:∃a,u= .ref a:=by cases o1;exact⟨_,rfl⟩
 refine rU (bP.zo o1) λi i i i i D=>tN D λi i i i a1 i=>mh rfl (spliced_nil ⟨⟨X.on _ _ a1,rfl⟩,wpAny_call (C0 L G (Around.frames_deeper K) Y (Rm.deeper _) X o1 hk λe h2 G9 I=>?_)⟩);refine fP I λV a0 Z x2 U=>?_;have fn:∀b o,h₀.get? b=some o→b∉frs (env::outer):=λb o z m=>by refine ay (List.mem_filterMap.mp m) λx S M=>a9 (Y x S) λi D=>fP D λL' i e1 W i=>?_;rw[M]at e1;(revert W;refine one e1 ?_;intro W);rw[z]at W;exact on W
 have B:∀b o,h₀.get? b=some o→V.get? b=some o:=λb o z=>Z b o (X.all _ _ z) (fn b o z);refine wpAny_looks_onW (s:={s with heap:=h2,toks:=G9}) (Around.frames_deeper K) fr U λh₄ c r=>wpAny_landsW c λQ h l=>ay h.there λob T J=>?_;have C:∀b o,h₀.get? b=some o→Q.get? b=some o:=λb o z=>h.1 b o (B b o z);have eS:mg (Str.ofString "SizeFault")=some (.ref 44):=L.names (Str.ofString "SizeFault",44) (by decide+kernel);refine wpAny_handleBy_cons (codeAny_handlers_test ?_) (by intro q;cases q);refine Name_function_global N.ok.kind kS (loadGlobal_global (by refine rl N.ok.glob ?_;exact Heap.Ns.at' G.g (C _)) eS ?_) (by decide+kernel);refine wpAny_excMatches_sub_self (yq λa o x=>C _ _ (G.X a o x)) T J rfl (codeAny_handlers_suite ?_);refine lands_againW h λP t j=>wpAny_noRaise (wpAny_execs_cons (wpAny_Return_some (wpAny_Constant_bool ?_)));refine hq P _ (λb o z hn=>t.1 b o (Z b o (O b o z) λm=>?_)) ((((Heap.UpToSlots.of_keeps O).trans x2).trans r).trans (l.trans j));refine ay (List.mem_filterMap.mp m) λx S M=>?_;clear L G K Rm hk hq X O N Y kS o1 D a1 i I Z x2 U fn B c r h l T J C eS t j m;rcases List.mem_cons.mp S with rfl|S
 ·replace M:=fr▸M;cases M;rw[gL]at z;exact no z
 ·exact hn (List.mem_filterMap.mpr ⟨x,S,M⟩)
end
section
variable{w:World}{h₀:Heap}{mg mb:Str→Option Value}{n:Nat}{f:PM}{A:Around}{E:Value→Shared→Prop}{s:Shared}{cenv:Env}{outer:List Env}
theorem G8(L:ic w mg mb h₀)(G:h8 (K0 w.params) mg mb h₀ bz.signs)(a:A.frames=some outer)(y:gz h₀ outer s.heap)(x:bO A (n+4))(H:Hp h₀ f [] s.heap [])(e:jq cenv)
  (g:cenv.kindOf (Str.ofString "_law_refused")=some .globalImplicit)(h:cenv.kindOf (nm 69)=some .local)(r:s.heap.Ns cenv.locals m)(l:m (nm 69)=some v)(z:bP f v (.ie k bL))(t:(k=6∧bL=[])∨(k=7∧bL=[])∨(k=8∧∃d,bL=[(1,d)]))
  (p:∀h' tk',(∀b o,s.heap.get? b=some o→b∉frs outer→h'.get? b=some o)→s.heap.UpToSlots h'→Q false {s with heap:=h',toks:=tk'}):
  wpAny (model P0 w) A (isTrue (.UnaryOp .Not (.Call (.Name (Str.ofString "_law_refused") np) [.Name (nm 69) cp] [] pos) p2) cenv (eval (.UnaryOp .Not (.Call (.Name (Str.ofString "_law_refused") np) [.Name (nm 69) cp] [] pos) p2) cenv)) Q E s:=by
 have u:mg (Str.ofString "_law_refused")=some (.ref (ia 45)):=L.names (Str.ofString "_law_refused",ia 45) (by decide+kernel);refine cJ (G.fns 45 (by decide)) λo fd q c=>wpAny_isTrue_Not (wpAny_isTrue_value (wpAny_Call_Name_kw (dD G H e g (by decide+kernel) u ?_)) rfl);refine mh rfl (spliced_cons (wpAny_Name (lF e (.inl ⟨h,m,r,l⟩) (jj 69 (by decide)) (spliced_nil ⟨⟨H.on _ _ (H.base _ _ (G.X _ _ q)),c⟩,?_⟩)) (mH 69 (by decide))));exact wpAny_call (w9 L G a y x H z t λh' tk' j i=>wpAny_truthy_bool (p h' tk' j i))
end
noncomputable def Ea(d:D):Prop:=∃k bL,d= .ie k bL∧((k=6∧bL=[])∨(k=7∧bL=[])∨(k=8∧∃d,bL=[(1,d)]))
noncomputable def rV(X F:List Addr)(h h':Heap):Prop:=∀b o,h.get? b=some o→b∉X→b∉cT→(b∉F→h'.get? b=some o)∧(b∈F→(∀vs,o.data≠.fields vs)→∃sl,h'.get? b=some {o with slots:=sl})
section
variable{w:World}{h₀:Heap}{mg mb:Str→Option Value}{n:Nat}{f:PM}{A:Around}{E:Value→Shared→Prop}{s:Shared}{cenv:Env}{outer:List Env}{R:Result→Shared→Prop}
theorem rV.keep(a:rV X F h h1)(k:∀b o,b∉X→b∉cT→h1.get? b=some o→h2.get? b=some o):rV X F h h2:=λb o e c d=>
 ⟨λg=>k b o c d ((a b o e c d).1 g),λg j=>let⟨i,l⟩:=(a b o e c d).2 g j;⟨i,k b _ c d l⟩⟩
theorem rV.slots(a:rV X F h h1)(k:∀b o,h1.get? b=some o→b∉F→h2.get? b=some o)(u:h1.UpToSlots h2):rV X F h h2:=λb o e d g=>
 ⟨λc=>k b o ((a b o e d g).1 c) c,λc i=>let⟨l,j⟩:=(a b o e d g).2 c i;let⟨sl2,e2⟩:=u b _ j i;⟨sl2,e2⟩⟩
theorem zQ(ρ:aB)(x:Nat)(v:V):(e9 ρ x v).lookup x=some v:=by
 induction ρ with
 |nil=>simp[e9]
 |cons p r a=>
  unfold e9;by_cases h:p.1=x
  ·refine rl (decide_eq_true h) ?_;simp
  ·refine rl (decide_eq_false h) ?_;refine rl List.lookup_cons (rl (beq_eq_false_iff_ne.mpr λz=>h z.symm) ?_);exact a
theorem C2{I:Addr}{fp:List Addr}{P Md:Nat→Value→Heap→Prop}{St:Nat→Heap→Prop}{ds:List D}{elt it:Expr}(L:ic w mg mb h₀)(G:h8 (K0 w.params) mg mb h₀ bz.signs)(hfr:A.frames=some outer)(Rm:bO A (n+4))
  (S:Src w A (.Name (nm 69) tp) true f ds I fp [I] P Md St)(hd:∀d∈ds,Ea d)(hst:aG cenv true 69)(hc:cenv.cells=[])(kr:cenv.kindOf (Str.ofString "_law_refused")=some .globalImplicit)(kc:cenv.kindOf (nm 69)=some .local)
  (J:∀b∈frs outer,f b=none∧b∉cT∧b≠cenv.locals∧b∉fp)(F:f I=none∧I∉cT∧I≠cenv.locals)(Q:∀b∈fp,b≠cenv.locals∧b∉cT)(Fo:gz h₀ outer s.heap)(H:Hp h₀ f [] s.heap [])(V:Vr true f [] cenv s.heap [])(st:St 0 s.heap)
  (hq:∀h' tk',rV [I,cenv.locals] (frs outer) s.heap h'→Hp h₀ f [] h' []→(∃m,h'.Ns cenv.locals m)→R (.ok .next) {s with heap:=h',toks:=tk'}):
  codeAny (model P0 w) A (.compLoop (.ListComp elt [⟨.Name (nm 69) tp,it,[.UnaryOp .Not (.Call (.Name (Str.ofString "_law_refused") np) [.Name (nm 69) cp] [] pos) p2],0⟩] scope pos2) 0 (.ref I) (.ref D0) cenv) R s:=by
 have t:∀b,b∈Env.adr cenv→b=cenv.locals:=λb j=>by unfold Env.adr at j;rw[hc]at j;exact List.mem_singleton.mp j
 refine kW rfl rfl (λg' h=>no h) (λk s'=>∃hi vC jo,∃i:Nat,s'={s with heap:=hi,toks:=vC}∧rV [I,cenv.locals] (frs outer) s.heap hi∧Hp h₀ f [] hi []∧Vr true f [] cenv hi jo∧gz h₀ outer hi∧St i hi∧i≤ds.length∧k=ds.length+1-i) ?_ (ds.length+1) (jC s.heap s.toks ([]) 0 ⟨rfl,λb o e l l=>⟨λl=>e,λl l=>⟨o.slots,e⟩⟩,H,V,Fo,st,Nat.zero_le _,rfl⟩);intro k s' Y;refine MQ Y λhi vC jo i SI Ri Hi Vi Fi y hle X=>?_;clear Y;subst SI;subst X;by_cases r:i<ds.length
 ·refine S.turns.item i _ _ _ r y λv h1 K Od Z=>S.turns.go i v _ _ _ Od λh2 hP st2 k2=>?_;have M:∀b o,b∉[I]→hi.get? b=some o→h2.get? b=some o:=λb o j x=>k2 b o j (Z b o j x);have FI:∀b∈[I],dG f [] cenv hi b:=λb j=>by exact rl (List.mem_singleton.mp j) (⟨F.1,S.stands i _ y I (.head _),(λz=>nomatch z),λz=>F.2.2 (t _ z),F.2.1⟩)
  have H2:=Hi.free M FI;have V2:=Vi.go λa ha o e=>M a o (λz=>F.2.2 (by rw[←List.mem_singleton.mp z,t _ ha])) e;have ed:=List.getElem?_eq_getElem r;refine cJ (hd _ (List.getElem_mem r)) λkk u RH hk=>?_;have D0:bP f v (.ie kk u):=by
   refine Or.elim (S.item i v h2 f ds[i] hP f.le_refl H2.on ed) (λx=>?_) λl=>?_
   ·rwa[RH]at x
   ·exact a9 l λx l=>tf x
  refine a8 hst A f [] [] jo (e9 jo 69 (.d (.ie kk u))) {s with heap:=h2,toks:=K} v (.ie kk u) _ _ Rm H2 V2 rfl (.inl D0) λU N6 W=>?_;have fO:∀b∈frs outer,b∉[I,cenv.locals]:=λb j z=>by
   refine Or.elim (List.mem_cons.mp z) (λz=>?_) λz=>?_
   ·exact(J b j).2.2.2 (rl z (S.turns.sub I (.head _)))
   ·exact(J b j).2.2.1 (List.mem_singleton.mp z)
  have k3:∀b o,b∉[I,cenv.locals]→b∉cT→hi.get? b=some o→U.get? b=some o:=λb o O ht e=>W.step.keep b o (M b o (λz=>O (rl (List.mem_singleton.mp z) (.head _))) e) (λz=>O (rl (t b (by simpa using z)) (.tail _ (.head _)))) ht;have F3:gz h₀ outer U:=λx O=>by obtain⟨a,T,o,b,c,d,e⟩:=Fi x O;have hm:=List.mem_filterMap.mpr ⟨x,O,b⟩;exact⟨a,T,o,b,c,k3 T o (fO T hm) (J T hm).2.1 d,e⟩
  obtain⟨_,v',B,D3⟩:=W.vr.vars 69 (.d (.ie kk u)) (zQ ..);obtain⟨m,hn,hv⟩:∃m,U.Ns cenv.locals m∧m (nm 69)=some v':=by
   rcases B with⟨_,m,N,e⟩|⟨z|z,_⟩
   ·exact⟨m,N,e⟩
   ·rw[kc]at z;cases z
   ·rw[kc]at z;cases z
  have H3:=W.hp;unfold oE;rw[List.forIn_cons,if_pos rfl];refine wpAny_bind (wpAny_bind (G8 (s:={s with heap:=U,toks:=N6}) L G hfr F3 Rm H3 W.vr.ok kr kc hn hv D3 hk λh4 PE q1 q2=>wpAny_pure ?_));dsimp only;refine rl List.forIn_nil ?_;refine wpAny_pure ?_;refine rl (if_neg (by decide)) ?_;have C:∀b,b∉frs outer→(∃o,U.get? b=some o)→h4.get? b=U.get? b:=λb j qq=>aT qq λo e=>by rw[e,q1 b o e j]
  have H4:=H3.go λb q=>by
   refine Or.elim q (λl=>?_) λl=>Or.elim l (λl=>?_) λq=>?_
   ·exact aT l λo e=>C b (λz=>by rw[(J b z).1]at e;exact no e) ⟨o,H3.on _ _ e⟩
   ·refine ay l λp hp l=>?_;cases hp
   ·exact C b (λz=>(J b z).2.1 q) (H3.tabAt q)
  have V4:=W.vr.go λa ha o e=>q1 a o e λz=>(J a z).2.2.1 (t a ha);have F4:gz h₀ outer h4:=λx O=>by obtain⟨a,T,o,b,c,d,e⟩:=F3 x O;obtain⟨sl,e2⟩:=q2 T o d e;exact⟨a,T,_,b,c,e2,e⟩
  have MF:=S.turns.frame _ _ _ st2 λb j o e=>by
   have RX:b∉frs outer:=λz=>(J b z).2.2.2 j;refine q1 b o ?_ RX;refine W.step.keep b o e (λz=>?_) λz=>?_
   ·exact(Q b j).1 (t b (by simpa using z))
   ·exact(Q b j).2 z
  exact⟨ds.length+1-(i+1),vU r,h4,PE,_,i+1,rfl,(Ri.keep k3).slots q1 q2,H4,V4,F4,MF,r,rfl⟩
 ·have hin:i=ds.length:=by exact sf hle r
  clear L G hfr Rm hd hst hc kr kc J Q Fo H V st Fi hle r;subst hin;refine S.turns.done _ _ _ y λh1 K Z=>?_;have FI:∀b∈[I],dG f [] cenv hi b:=λb j=>by exact rl (List.mem_singleton.mp j) (⟨F.1,S.stands _ _ y I (.head _),(λz=>nomatch z),λz=>F.2.2 (t _ z),F.2.1⟩)
  have V1:=Vi.go λa ha o e=>Z a o (λz=>F.2.2 (by rw[←List.mem_singleton.mp z,t _ ha])) e;exact hq h1 K (Ri.keep λb o j l e=>Z b o (λz=>j (rl (List.mem_singleton.mp z) (.head _))) e) (Hi.free Z FI) V1.ns
end
noncomputable def yM(C:Mine.Sem):Ss→(St→Option (Fl×St))→St→Option (Fl×St)
 | .nil,t=>t
 | .cons a r,t=>λst=>b2 (fZ C a st) λf st'=>f.on st' (yM C r t st')
set_option tactic.hygienic true in
theorem xx:∀{p:Ss} {st:St},cu C p st=some (.next,st')→yM C p t st=t st':=by
 intro p;induction p using Ss.rec (motive_1:=λg=>True)with
 |nil=>intro st e;exact two e rfl
 |cons a r _ d=>
  intro st e;refine au e λf c b e=>aF b ?_;clear b;cases f with
  |next=>exact d e
  |cont=>cases e
  |ret v=>cases e
 |_=>trivial
section
variable{w:World}{h₀:Heap}{mg mb:Str→Option Value}{n:Nat}{C:Mine.Sem}
set_option maxHeartbeats 4000000 in
theorem OZ(X:Cx w h₀ mg mb n C)(L:Addr){A:Around}{t:St→Option (Fl×St)}(T:qO w h₀ n A (aV 46 L) false false (execs ((fQ (k8 46)).drop 8) (aV 46 L)) t):
  qO w h₀ n A (aV 46 L) true false (execs (fQ (k8 46)) (aV 46 L)) (yM C (L3.body.take 8) t):=by
 have b:(aV 46 L).kindOf (Str.ofString "_law_alone_right")=some .globalImplicit:=by kernel_rfl
 have f:(aV 46 L).kindOf (Str.ofString "_law_dots")=some .globalImplicit:=by kernel_rfl
 have l:(aV 46 L).kindOf (Str.ofString "_law_drawn")=some .globalImplicit:=by rfl
 have a:(aV 46 L).kindOf (Str.ofString "_law_holds_right")=some .globalImplicit:=by rfl
 have j:(aV 46 L).kindOf (Str.ofString "_law_is")=some .globalImplicit:=by rfl
 have e:(aV 46 L).kindOf (Str.ofString "_law_made")=some .globalImplicit:=by rfl
 have d:(aV 46 L).kindOf (Str.ofString "_law_pair_right")=some .globalImplicit:=by rfl
 have m:(aV 46 L).kindOf (Str.ofString "_law_pool")=some .globalImplicit:=by rfl
 have h:(aV 46 L).kindOf (Str.ofString "_law_turned")=some .globalImplicit:=by rfl
 have s_1:aG (aV 46 L) true 1:=eM (by rfl);have s_61:∀{op:Bool},aG (aV 46 L) op 61:=ao (by rfl);have s_70:∀{op:Bool},aG (aV 46 L) op 70:=ao (by rfl);have s_7:∀{op:Bool},aG (aV 46 L) op 7:=ao (by rfl);have s_49:∀{op:Bool},aG (aV 46 L) op 49:=ao (by rfl);have s_5:∀{op:Bool},aG (aV 46 L) op 5:=ao (by rfl);have s_45:∀{op:Bool},aG (aV 46 L) op 45:=ao (by rfl);have s_62:∀{op:Bool},aG (aV 46 L) op 62:=ao (by rfl);exact(dZ (λo=>rfl) (cR.at (fj (x:=45) (FH X (g:=34) (by rfl) m (af rfl (aa (x:=42)) (af rfl aj aD))) s_45 rfl) _) (dZ (λo=>rfl) (cR.at (bB (x:=49) (aJ (aO X (g:=37) (by rfl) l (af rfl (aa (x:=45)) aD))) s_49 (by rfl)) _) (dZ (λo=>rfl) (cR.at (bB (x:=7) (aJ (aO X (g:=42) (by rfl) h (af rfl (aa (x:=45)) (af rfl (aa (x:=49)) aD)))) s_7 (by rfl)) _) (dZ (λo=>rfl) (cR.at (kN (xs:=[1,5,61,62]) (c5 rfl (aJ (aO X (g:=39) (by kernel_rfl) e (af rfl (aa (x:=49)) aD))) (c5 rfl (aJ (aO X (g:=39) (by kernel_rfl) e (af rfl (aa (x:=7)) aD))) (c5 rfl (aJ (aO X (g:=38) (by kernel_rfl) f (af rfl (aa (x:=49)) aD))) (c5 rfl (aJ (aO X (g:=38) (by kernel_rfl) f (af rfl (aa (x:=7)) aD))) eK)))) (OR s_1 s_5 s_61 s_62) (by rfl) (by rfl) (by decide) (.cons (aK (x:=1)) (.cons (aK (x:=5)) (.cons (aK (x:=61)) (.cons (aK (x:=62)) .nil)))) rfl rfl) _) (dZ (λo=>rfl) (cR.at (bh (eV (aP (dz (cO (aO X (g:=40) (by kernel_rfl) j (af rfl (aa (x:=1)) (af rfl (aa (x:=61)) aD))) (λo=>rfl))) (aP (dz (cO (aO X (g:=40) (by kernel_rfl) j (af rfl (aa (x:=5)) (af rfl (aa (x:=62)) aD))) (λo=>rfl))) (aP (dz (cO (aO X (g:=41) (by kernel_rfl) a (af rfl (aa (x:=1)) (af rfl (aa (x:=61)) (af rfl (aa (x:=49)) aD)))) (λo=>rfl))) cj)))) (ae id (aA cP) ah) ah) _) (dZ (λo=>rfl) (cR.at (bh (eV (aP (dz (cO (aO X (g:=41) (by kernel_rfl) a (af rfl (aa (x:=5)) (af rfl (aa (x:=62)) (af rfl (aa (x:=7)) aD)))) (λo=>rfl))) (aP (dz (cO (aO X (g:=43) (by rfl) d (af rfl (aa (x:=1)) (af rfl (aa (x:=5)) (af rfl (aa (x:=61)) (af rfl (aa (x:=62)) aD))))) (λo=>rfl))) cj))) (ae id (aA cP) ah) ah) _) (dZ (λo=>rfl) (cR.at (bh (dz (cO (aO X (g:=44) (by rfl) b (af rfl (aa (x:=45)) (af rfl (aa (x:=1)) (af rfl (aa (x:=61)) aD)))) (λo=>rfl))) (ae id (aA cP) ah) ah) _) (dZ id (cR.at (bB (x:=70) (aJ (bX (af rfl (m3 X (k:=6) (i:=6) (by decide) (by kernel_rfl) (by kernel_rfl) (by kernel_rfl) (by rfl) (by kernel_rfl) (by kernel_rfl)) (af rfl (m3 X (k:=7) (i:=6) (by decide) (by kernel_rfl) (by kernel_rfl) (by kernel_rfl) (by rfl) (by kernel_rfl) (by kernel_rfl)) (af rfl (BJ X (k:=8) (x:=1) (i:=6) (c:=L+1) (by decide) (by kernel_rfl) (by kernel_rfl) (by kernel_rfl) (by rfl) (by kernel_rfl) (by rfl) (by rfl) (by rfl)) aD))))) s_70 (by rfl)) _) T))))))))
set_option maxHeartbeats 4000000 in
theorem O0(X:Cx w h₀ mg mb n C)(L:Addr):cR w h₀ n (aV 46 L) false false (execs ((fQ (k8 46)).drop 9) (aV 46 L)) (cu C (L3.body.drop 9)):=by
 have mF:(aV 46 L).kindOf (Str.ofString "Region")=some .globalImplicit:=by kernel_rfl
 exact(ae id (bh (cO (bV X.G X.CO X.MO (m:=65) rfl (kT X (c:=1) (by kernel_rfl) mF (af rfl (oz (.cons aj (bX (af rfl (bc (af rfl aj (af rfl aj aD))) aD)) .nil) (by simp)) aD)) (af rfl (kT X (c:=1) (by kernel_rfl) mF (af rfl (oz (.cons aj (bX (af rfl (bc (af rfl aj (af rfl aj aD))) aD)) .nil) (by simp)) aD)) aD)) (λzz=>rfl)) (ae id (aA cP) ah) ah) (ae id (aA (bV X.G X.CO X.MO (m:=65) rfl (kT X (c:=1) (by kernel_rfl) mF (af rfl (oz (.cons aj (bX (af rfl (bc (af rfl aj (af rfl aj aD))) aD)) (.cons aj (bX aD) .nil)) (by simp)) aD)) (af rfl (kT X (c:=1) (by kernel_rfl) mF (af rfl (oz (.cons aj (bX (af rfl (bc (af rfl aj (af rfl aj aD))) aD)) .nil) (by simp)) aD)) aD))) ah))
end
noncomputable def MV(b:List Stmt)(scope:Scope):Prop:=∃ep tp ip np cp p2 pos pos2 lp cpos rest QG body,b= .If (.Compare (.ListComp (.Name (nm 69) ep) [⟨.Name (nm 69) tp,.Name (nm 70) ip,[.UnaryOp .Not (.Call (.Name (Str.ofString "_law_refused") np) [.Name (nm 69) cp] [] pos) p2],0⟩] scope pos2) [.NotEq] [.List [] lp] cpos) body [] QG::rest
noncomputable def eJ:Scope:=((G6 0 (Gf ((fQ (k8 46)).drop 8))).bind λe=>(N9 e).2.2.1).getD default
theorem NS:MV ((fQ (k8 46)).drop 8) eJ:=(Ao _ _ _ _ _ _ _ _ ⟨_,_,_,_,_,rfl⟩)
theorem uV:b8 eJ.names=[]:=by kernel_rfl
theorem wZ:eJ.names.all (λx=>match x.2 with | .cell=>false|_=>true)=true:=by rfl
section
variable{w:World}{h₀:Heap}{mg mb:Str→Option Value}{n:Nat}{f:PM}{as:List (Addr×Addr)}{σ:ak}{A:Around}{E:Value→Shared→Prop}{s:Shared}{env:Env}{op:Bool}{ρ:aB}
theorem C1(L:ic w mg mb h₀)(G:h8 (K0 w.params) mg mb h₀ bz.signs)(hfr:A.frames=some [env])(hf:env.frame=some env.locals)(Pb:h₀.get? env.locals=none)(Rm:bO A (n+4))(H:Hp h₀ f as s.heap σ)(V:Vr op f as env s.heap ρ)
  (Y:ρ.lookup 70=some (.d (.lst ds)))(hd:∀d∈ds,Ea d)
  (hq:∀h' tk' (D0:Addr) X,rV X [env.locals] s.heap h'→(∀x∈X,s.heap.get? x=none)→Hp h₀ f [] h' []→h'.get? D0=some (dR [] 0)→s.heap.get? D0=none→Q (.ref D0) {s with heap:=h',toks:=tk'}):
  wpAny (model P0 w) A (eval (.ListComp (.Name (nm 69) ep) [⟨.Name (nm 69) tp,.Name (nm 70) ip,[.UnaryOp .Not (.Call (.Name (Str.ofString "_law_refused") np) [.Name (nm 69) cp] [] pos) p2],0⟩] eJ pos2) env) Q E s:=by
 have i:eJ.kind= .function:=by rfl
 refine bG (jd (env:=env) (by refine rl uV ?_;intro x l;cases l)) λcl W c1 c2=>?_;rw[uV]at c1;clear c2;obtain rfl:cl=[]:=by simpa using c1
 refine rl (rj _ _ _ _ _ rfl) ?_;refine wpAny_comprehension_free rfl (λK=>rfl) W i ?_ ?_
 ·have nb:wX eJ.names=true:=by rfl
  intro x l hl;have:=List.all_eq_true.mp nb x l;rw[hl]at this;dsimp only at this;split at this
  ·assumption
  ·exact ft this
 ·refine eI V Y λu o1=>?_;have Sq:bP f u (.lst ds):=o1;clear Y W c1 o1;cases Sq with
  |@lst a vs k _ e r=>
  have g:=H.on _ _ e;have S:=src_list (w:=w) (target:=.Name (nm 69) tp) Rm e r g;refine wpAny_pyIter_list ⟨_,g,rfl,_,rfl⟩ ?_;refine wpAny_newObj_type (wpAny_newFunctionEnv ?_ (by intro y hy;cases hy) (λO M B=>?_) i) (by size_fits)
  ·intro x l hc;have:=List.all_eq_true.mp wZ x l;rw[hc]at this;exact ft this
  ·dsimp only at M B⊢;generalize P:s.heap.objs.size=I at*;have h1:(s.heap.push {cls:=.type "list_iterator",data:=.fields #[Value.ref a,Value.int 0 0]}).objs.size=I+1:=by rw[Heap.size_push,P]
   have h2:((s.heap.push {cls:=.type "list_iterator",data:=.fields #[Value.ref a,Value.int 0 0]}).push {cls:=.type "list",data:=.seq #[]}).objs.size=I+1+1:=by rw[Heap.size_push,h1]
   refine rl h1 ?_;rw[h2]at M B⊢;have D:∀b o,s.heap.get? b=some o→O.get? b=some o:=λb o J=>B.extBut b o (Nat.ne_of_lt (by have:=Heap.lt_size J;rw[P]at this;exact Nat.lt_succ_of_lt (Nat.lt_succ_of_lt this))) (Heap.get?_push_of_some _ (Heap.get?_push_of_some _ (Heap.get?_push_of_some _ J)));have h:∀b,I≤b→s.heap.get? b=none:=λb t=>aq (rl P t);have H4:=H.nil.keeps D;have gI:(s.heap.push {cls:=.type "list_iterator",data:=.fields #[Value.ref a,Value.int 0 0]}).get? I=some {cls:=.type "list_iterator",data:=.fields #[Value.ref a,Value.int 0 0]}:=P▸Heap.get?_push_size _ rfl;have kI:∀b o,b<I+1→(s.heap.push {cls:=.type "list_iterator",data:=.fields #[Value.ref a,Value.int 0 0]}).get? b=some o→O.get? b=some o:=λb o t J=>B.extBut b o (Nat.ne_of_lt (Nat.lt_succ_of_lt t)) (Heap.get?_push_of_some _ (Heap.get?_push_of_some _ J));have R:O.IsListIter I a 0∧O.IsList a vs.toArray:=⟨⟨_,kI I _ (Nat.lt_succ_self _) gI,rfl,rfl⟩,_,D _ _ g,rfl,_,rfl⟩;have D4:=B.extBut _ _ (Nat.ne_of_lt (Nat.lt_succ_self _)) (Heap.get?_push_of_some _ (h1▸Heap.get?_push_size _ rfl));have V4:Vr true f [] (compEnvC eJ [] (I+1+1) env) O []:=by refine⟨⟨i,V.ok.glob,V.ok.blt⟩,λx y ex=>(no ex),⟨_,M⟩,(λp F=>nomatch F),(λp F=>nomatch F),λa ha z=>?_,(H.off (h (I+1+1) (Nat.le_succ_of_le (Nat.le_succ _)))).1,(λK p F=>nomatch F),List.nodup_nil,(λp F=>nomatch F)⟩;rw[List.mem_singleton.mp (show a∈[I+1+1]from ha)]at z;refine aT (H.tabAt z) λo J=>?_;rw[h (I+1+1) (Nat.le_succ_of_le (Nat.le_succ _))]at J;exact no J
   have F4:gz h₀ [env] O:=by refineλx l=>rl (List.mem_singleton.mp l) ?_;exact rT V.ns λm o es k g1 g2 K=>⟨V.ok.kind,env.locals,o,hf,Pb,D _ _ g1,λvs q=>by replace q:=g2▸q;cases q⟩
   have U:env.locals<I:=by exact tN V.ns λm o es k g1 K=>P▸Heap.lt_size g1
   have aI:=P▸Heap.lt_size g;have fr:∀b∈frs [env],b=env.locals:=λb t=>by refine ay (List.mem_filterMap.mp t) λx l ex=>?_;rw[List.mem_singleton.mp l,hf]at ex;exact(Option.some.inj ex).symm
   have lp:∀tk,codeAny (model P0 w) A (.compLoop (.ListComp (.Name (nm 69) ep) [⟨.Name (nm 69) tp,.Name (nm 70) ip,[.UnaryOp .Not (.Call (.Name (Str.ofString "_law_refused") np) [.Name (nm 69) cp] [] pos) p2],0⟩] eJ pos2) 0 (.ref I) (.ref (I+1)) (compEnvC eJ [] (I+1+1) env)) (compPost (model P0 w) A E none Q (.ref (I+1)) (I+1+1)) {s with heap:=O,toks:=tk}:=λtk=>by
    refine C2 L G hfr Rm S hd ⟨by decide,.inl (by kernel_rfl)⟩ rfl (by rfl) (by kernel_rfl) (λb t=>?_) ⟨(H.off (h I (Nat.le_refl _))).1,(H.off (h I (Nat.le_refl _))).2.2,Nat.ne_of_lt (Nat.lt_succ_of_lt (Nat.lt_succ_self _))⟩ (λb t=>?_) F4 H4 V4 R λh' tk' C H' qq=>aT qq λm N=>?_
    ·refine rl (fr b t) ?_;refine⟨V.g7,V.tab _ (List.mem_cons_self ..),Nat.ne_of_lt (Nat.lt_succ_of_lt (Nat.lt_succ_of_lt U)),λz=>?_⟩;refine Or.elim (List.mem_cons.mp z) (λz=>?_) λz=>?_
     ·rw[z]at U;exact Nat.lt_irrefl _ U
     ·have:=V.g7;rw[List.mem_singleton.mp z,e]at this;exact on this
    ·refine Or.elim (List.mem_cons.mp t) (λz=>?_) λz=>?_
     ·exact rl z (⟨Nat.ne_of_lt (Nat.lt_succ_of_lt (Nat.lt_succ_self _)),(H.off (h I (Nat.le_refl _))).2.2⟩)
     ·refine rl (List.mem_singleton.mp z) ?_;exact⟨Nat.ne_of_lt (Nat.lt_succ_of_lt (Nat.lt_succ_of_lt aI)),λq=>by rw[H.jA _ q]at e;exact no e⟩
    ·have ef:frs [env]=[env.locals]:=by simp[hf]
     replace C:=ef▸C;have T:∀b,(∃o,f b=some o)∨b∈cT→b≠I+1+1:=λb q z=>by
      have z0:=H.off (h (I+1+1) (Nat.le_succ_of_le (Nat.le_succ _)));refine Or.elim q (λK=>?_) λq=>?_
      ·refine aT K λo q=>?_;rw[z,z0.1]at q;exact no q
      ·exact z0.2.2 (z▸q)
     refine⟨m,N,λh'' Z=>hq h'' tk' (I+1) [I,I+1+1] ?_ ?_ ?_ ?_ (h _ (Nat.le_succ _))⟩
     ·intro b o J l ht;have nb:b≠I+1+1:=λz=>l (rl z (.tail _ (.head _)));have:=C b o (D b o J) l ht;exact⟨λt=>(Z.2 b nb).trans (this.1 t),λt hn=>let⟨sl,q⟩:=this.2 t hn;⟨sl,(Z.2 b nb).trans q⟩⟩
     ·refineλx l=>Or.elim (List.mem_cons.mp l) (λz=>?_) λz=>?_
      ·exact rl z (h I (Nat.le_refl _))
      ·exact rl (List.mem_singleton.mp z) (h _ (Nat.le_succ_of_le (Nat.le_succ _)))
     ·exact H'.go λb q=>Z.2 b (T b (q.elim .inl λq=>q.elim (λqq=>ay qq λK F K=>nomatch F) .inr))
     ·refine(Z.2 _ (Nat.ne_of_lt (Nat.lt_succ_self _))).trans ((C (I+1) _ D4 (λz=>?_) (H.off (h (I+1) (Nat.le_succ _))).2.2).1 λz=>?_)
      ·refine Or.elim (List.mem_cons.mp z) (λz=>?_) λz=>?_
       ·exact Nat.succ_ne_self I z
       ·exact Nat.succ_ne_self (I+1) (List.mem_singleton.mp z).symm
      ·rw[←List.mem_singleton.mp z]at U;exact Nat.lt_irrefl _ (Nat.lt_trans (Nat.lt_succ_self I) U)
   exact gZ rfl rfl (lp _) (S.self 0 _ _ _ R (lp _))
end
open Classical in
noncomputable def yt(k:St→Option (Fl×St))(st:St):Option (Fl×St):=if∃ds,st.1.lookup 70=some (.d (.lst ds))∧∀d∈ds,Ea d then k st else none
section
variable{w:World}{h₀:Heap}{mg mb:Str→Option Value}{n:Nat}{A:Around}{h h':Heap}{f:PM}{as:List (Addr×Addr)}{σ:ak}
theorem Hp.over(H:Hp h₀ f as h σ)(a:Hp h₀ f [] h' [])(k:∀p∈as,∀o,h.get? p.2=some o→h'.get? p.2=some o):Hp h₀ f as h' σ:=
 ⟨a.on,a.base,a.tabs,a.jA,H.len,λi p c e g=>(H.cells i p c e g).step f.le_refl (λl=>by
   obtain⟨o,d⟩:=H.has p (List.mem_of_getElem? e);exact rl d (k p (List.mem_of_getElem? e) o d)) λj=>(H.cellAt e g j).2,
  H.apart,H.gE,λp b=>let⟨o,e⟩:=H.has p b;⟨o,k p b o e⟩⟩
set_option tactic.hygienic true in
theorem C3(Gb:MV b eJ)(L:ic w mg mb h₀)(G:h8 (K0 w.params) mg mb h₀ bz.signs)(Y:A.frames=some [env])(hf:env.frame=some env.locals)
  (T:qO w h₀ (n+4) A env false false (execs (b.drop 1) env) ev):qO w h₀ (n+4) A env false false (execs b env) (yt ev):=by
 intro ρ σ fl ρ' P e f as s Q E Rm H V q;unfold yt at e;split at e
 ·rename_i K;refine ay K λds RE hd=>nR Gb λep tp ip np cp p2 pos pos2 t=>rU t λlp cpos rest QG body R=>?_;clear Gb K;subst R;have Pb:h₀.get? env.locals=none:=by
   cases z:h₀.get? env.locals with
   |none=>rfl
   |some o=>have:=H.base _ _ z;rw[V.g7]at this;exact no this
  refine wpAny_execs_cons (wpAny_If (wpAny_isTrue_Compare1 (C1 L G Y hf Pb Rm H V RE hd λh1 DZ D0 X I nX H1 u g0=>?_)));refine wpAny_List_spliced (spliced_nil ⟨Nat.zero_le _,?_⟩);dsimp only;have J:∀b o,h1.get? b=some o→(h1.push {cls:=.type "list",data:=.seq #[]}).get? b=some o:=λb o e=>Heap.get?_push_of_some _ e;have H2:=H1.keeps J;refine iO (o:=.ne) (r:=false) G.mods Rm (by decide+kernel) H2 (.inr (.inl (jC _ ([]) 0 ([]) ⟨rfl,rfl,J _ _ u,.nil⟩))) (.inr (.inl (jC _ ([]) 0 ([]) ⟨rfl,rfl,Heap.get?_push_size _ rfl,.nil⟩))) λS=>wpAny_truthy_bool ?_;refine rl (if_neg (by decide)) ?_;refine wpAny_execs_nil ?_;generalize h1.push {cls:=.type "list",data:=.seq #[]}=h2 at J H2⊢;have g:∀b o,s.heap.get? b=some o→b∉cT→b≠env.locals→h2.get? b=some o:=λb o D W Z=>J b o ((I b o D (λz=>by rw[nX b z]at D;exact no D) W).1 λz=>Z (List.mem_singleton.mp z));have H3:=H.over H2 λp j o D=>g p.2 o D (H.gE p j) λz=>V.apart p j (z▸List.mem_cons_self ..);have N:∀m,s.heap.Ns env.locals m→h2.Ns env.locals m:=λm U=>fG U λo es k u O r=>by
   obtain⟨sl,g3⟩:=(I _ o u (λz=>by rw[nX _ z]at u;exact no u) (V.tab _ (List.mem_cons_self ..))).2 (List.mem_singleton.mpr rfl) λvs z=>by replace z:=O▸z;cases z
   exact(h9 _ es k ⟨J _ _ g3,O,r⟩)
  have C:∀p∈env.cells,∀v,s.heap.IsCell p.2 v→h2.IsCell p.2 v:=λp j v U=>ay U λo u O=>⟨o,g p.2 o u (V.tab _ (List.mem_cons_of_mem _ (List.mem_map.mpr ⟨p,j,rfl⟩))) (V.ig p j),O⟩;have V3:Vr false f as env h2 ρ:=⟨V.ok,λx y ex=>by
    refine a9 (V.vars x y ex) λl t=>ay t λv B o=>⟨l,v,?_,o⟩;refine Or.elim B (λF=>?_) λF=>?_
    ·refine a9 F λa t=>?_;obtain⟨m,n,e⟩:=t;exact .inl ⟨a,m,N m n,e⟩
    ·refine a9 F λa t=>?_;obtain⟨c,e,i⟩:=t;exact .inr ⟨a,c,e,C _ (PySem.mem_of_lookup e) _ i⟩,
   let⟨m,n⟩:=V.ns;⟨m,N m n⟩,λp j=>let⟨v,c⟩:=V.cell p j;⟨v,C p j v c⟩,V.apart,V.tab,V.g7,V.jJ,V.inj,V.ig⟩
  have R1:dI h₀ false env f as s.heap ρ σ f as h2:=by refine⟨⟨f.le_refl,λb o D Z W=>g b o D W λz=>Z (List.mem_append_right _ (z▸List.mem_cons_self ..)),λF F e=>.inl e⟩,H3,V3,[],by simp,λF z=>nomatch z⟩
  exact T ρ σ fl ρ' P e f as {s with heap:=h2,toks:=S} Q E Rm H3 V3 λf' as' h' tk M R2 o2=>q f' as' h' tk M (R1.trans R2) o2
 ·exact no e
end
end
noncomputable abbrev SM(n:Nat):Sem:=bz.sem n
theorem fE{g:Nat}(h:Nat.ble 45 g=false)(d:bz.fns[g]? =some fd):(SM (n+1)).call g as=qn (SM n) fd as:=(congrArg (λc=>cond c none (b1 bz.fns[g]? λfd=>qn (SM n) fd as)) h).trans (aR d rfl)
theorem yD(h:bz.Cw[c]? =some g)(d:bz.fns[g]? =some fd):(SM (n+1)).new c as=xf (SM n) c fd as:=aR h (aR d rfl)
theorem kK(d:bz.zO[k]? =some ld)(e:decide (bL.map (λx=>x.1)=ld.bL)=true):(SM (n+1)).lam k bL ds=qo (SM n) ld bL ds:=aR d (bI e rfl)
section
variable{C:Sem}{ρ jw ρ':aB}{σ σ1 σ2 σ3:ak}{a b c:T}{x y z:D}{v va vb:V}{q:Option (Fl×St)}
theorem fC{d:ak}{r:AR}(g:enter fd.params as 0=some (ρ,d))(f:cu C fd.body (ρ,d)=some (.ret v,(ρ',σ)))(e:uL d.length v σ=some (r,cs)):qn C fd as=some (r,cs):=aF g (aF f e)
theorem Dt{d:ak}{r:AR}(g:enter fd.params as 0=some (ρ,d))(f:cu C fd.body (ρ,d)=some (.next,(ρ',σ)))(e:uL d.length (.d .none) σ=some (r,cs)):qn C fd as=some (r,cs):=aF g (aF f e)
theorem li(h:o=some (.d (.bool r),σ)):lV o=some (r,σ):=h▸rfl
theorem jZ(h:o=some (.d (.int i),σ)):oI o=some (i,σ):=h▸rfl
theorem HA(h:o=some (.d (.str i),σ)):oX o=some (i,σ):=h▸rfl
theorem yo(h:o=some (.d i,σ)):oD o=some (i,σ):=h▸rfl
theorem yp(h:o=some (.loc i,σ)):oK o=some (i,σ):=h▸rfl
theorem Hh{c:Cell}(h:o=some (.c c,σ)):aC o=some (c,σ):=h▸rfl
theorem yO(h:o=some (.lst l)):vL o=some l:=h▸rfl
theorem HF(h:o=some (.dct l)):vM o=some l:=h▸rfl
theorem BI(h:o=some (.lst l)):cL o=some l:=h▸rfl
theorem Hx(h:o=some (.loc k)):lK o=some k:=h▸rfl
theorem NF(h:o=some (.d (.int i))):lI o=some i:=h▸rfl
theorem bY(h:ρ.lookup k=some v):aH C (.var k) ρ σ=some (v,σ):=aR h rfl
theorem aQ(h:aH C a ρ σ=some (va,σ1))(g:aH C b ρ σ1=some (vb,σ2))(f:view σ2 va=some x)(e:view σ2 vb=some y)(d:binOp o x y=some z):aH C (.bin o a b) ρ σ=some (.d z,σ2):=aF h (aF g (aR f (aR e (aR d rfl))))
theorem aW(h:aH C a ρ σ=some (va,σ1))(g:aH C b ρ σ1=some (vb,σ2))(f:view σ2 va=some x)(e:view σ2 vb=some y)(d:gx o x y=some r):aH C (.cmp o a b) ρ σ=some (.d (.bool r),σ2):=aF h (aF g (aR f (aR e (aR d rfl))))
theorem wF(d:aH C a ρ σ=some (.d (.bool r),σ1)):aH C (.not a) ρ σ=some (.d (.bool (!r)),σ1):=aF (li d) rfl
theorem dP(h:dJ C l ρ σ=some (r,σ1)):aH C (.and l) ρ σ=some (.d (.bool r),σ1):=aF h rfl
theorem fL(h:nT C l ρ σ=some (r,σ1)):aH C (.or l) ρ σ=some (.d (.bool r),σ1):=aF h rfl
theorem and_nil:dJ C .nil ρ σ=some (true,σ):=rfl
theorem or_nil:nT C .nil ρ σ=some (false,σ):=rfl
theorem ii(h:aH C a ρ σ=some (.d (.bool true),σ1))(d:dJ C l ρ σ1=some (r,σ2)):dJ C (.cons a l) ρ σ=some (r,σ2):=aF (li h) d
theorem gX(h:aH C a ρ σ=some (.d (.bool false),σ1)):dJ C (.cons a l) ρ σ=some (false,σ1):=aF (li h) rfl
theorem iX(h:aH C a ρ σ=some (.d (.bool false),σ1))(d:nT C l ρ σ1=some (r,σ2)):nT C (.cons a l) ρ σ=some (r,σ2):=aF (li h) d
theorem C5(h:aH C a ρ σ=some (.d (.bool true),σ1)):nT C (.cons a l) ρ σ=some (true,σ1):=aF (li h) rfl
theorem and_2(h:aH C a ρ σ=some (.d (.bool r),σ))(d:r=true→aH C b ρ σ=some (.d (.bool s),σ)):dJ C (.cons a (.cons b .nil)) ρ σ=some (r&&s,σ):=by
 cases r with
 |false=>exact gX h
 |true=>
  have:=d rfl;clear d;cases s with
  |false=>exact ii h (gX this)
  |true=>exact ii h (ii this and_nil)
theorem or_2(h:aH C a ρ σ=some (.d (.bool r),σ))(d:r=false→aH C b ρ σ=some (.d (.bool s),σ)):nT C (.cons a (.cons b .nil)) ρ σ=some (r||s,σ):=by
 cases r with
 |true=>exact C5 h
 |false=>
  have:=d rfl;clear d;cases s with
  |true=>exact iX h (C5 this)
  |false=>exact iX h (iX this or_nil)
theorem Cb(h:aH C c ρ σ=some (.d (.bool r),σ1))(e:r=true→aH C a ρ σ1=some (v,σ2))(d:r=false→aH C b ρ σ1=some (v,σ2)):aH C (.Nx c a b) ρ σ=some (v,σ2):=aF (li h) (by clear h;cases r with
 |true=>exact e rfl
 |false=>exact d rfl)
theorem L1:bH C .nil ρ σ=some ([],σ):=rfl
theorem gG(h:aH C a ρ σ=some (v,σ1))(d:bH C l ρ σ1=some (vs,σ2)):bH C (.cons a l) ρ σ=some (v::vs,σ2):=aF h (aF d rfl)
theorem es_1(h:aH C a ρ σ=some (v,σ1)):bH C (.cons a .nil) ρ σ=some ([v],σ1):=gG h L1
theorem es_2(h:aH C a ρ σ=some (va,σ1))(d:aH C b ρ σ1=some (vb,σ2)):bH C (.cons a (.cons b .nil)) ρ σ=some ([va,vb],σ2):=gG h (es_1 d)
theorem es_3(h:aH C a ρ σ=some (va,σ1))(e:aH C b ρ σ1=some (vb,σ2))(d:aH C c ρ σ2=some (w,σ3)):bH C (.cons a (.cons b (.cons c .nil))) ρ σ=some ([va,vb,w],σ3):=gG h (es_2 e d)
theorem gw(h:bH C l ρ σ=some (vs,σ1))(e:kY σ1 vs=some (ds,σ2))(d:fits ds.length=true):aH C (.tup l) ρ σ=some (.d (.tup ds),σ2):=aF h (aF e (bI d rfl))
theorem sN(h:bH C l ρ σ=some (vs,σ1))(e:kY σ1 vs=some (ds,σ2))(d:fits ds.length=true):aH C (.lst l) ρ σ=some (.d (.lst ds),σ2):=aF h (aF e (bI d rfl))
theorem bf(h:aH C a ρ σ=some (va,σ1))(g:aH C b ρ σ1=some (vb,σ2))(f:view σ2 va=some x)(e:view σ2 vb=some y)(d:hU x y=some z):aH C (.sub a b) ρ σ=some (.d z,σ2):=aF h (aF g (aR f (aR e (aR d rfl))))
theorem eR(h:jh σ (C.cg g) vs=some (as,σ1,ks))(e:C.call g as=some (r,cs))(d:putBack σ1 ks cs=some σ2):iB C g σ vs=some (r,σ2):=tY h (aF e (aR d rfl))
theorem ir(h:bH C l ρ σ=some (vs,σ1))(e:iB C g σ1 vs=some (r,σ2))(d:r.data=some x):aH C (.call g l) ρ σ=some (.d x,σ2):=aF h (aF e (aR d rfl))
theorem Cc(h:bH C l ρ σ=some (vs,σ1))(e:jb C k σ1 vs=some (r,σ2))(d:r.data=some x):aH C (.new k l) ρ σ=some (.d x,σ2):=aF h (aF e (aR d rfl))
theorem zw(f:ρ.lookup k=some (.d (.fn g)))(h:bH C l ρ σ=some (vs,σ1))(e:iB C g σ1 vs=some (r,σ2))(d:r.data=some x):aH C (.kU k l) ρ σ=some (.d x,σ2):=aR f (aF h (aF e (aR d rfl)))
theorem pC(f:ρ.lookup k=some (.d (.ie g bL)))(h:bH C l ρ σ=some (vs,σ1))(e:kY σ1 vs=some (ds,σ2))(d:C.lam g bL ds=some x):aH C (.kU k l) ρ σ=some (.d x,σ2):=aR f (aF h (aF e (aR d rfl)))
theorem sO(n:aH C a ρ σ=some (v,σ1))(j:classOf σ1 v=some k)(i:C.di k m=some g)(h:CF σ1 v m=true)(f:bH C l ρ σ1=some (vs,σ2))(e:iB C g σ2 (v::vs)=some (r,σ3))(d:r.data=some x):
  aH C (.di m a l) ρ σ=some (.d x,σ3):=aF n (aR j (aR i (bI h (aF f (aF e (aR d rfl))))))
theorem B8(h:bH C l ρ σ=some (vs,σ1))(e:LZ σ1 vs=some ds)(d:cC k ds=some x):aH C (.blt k l) ρ σ=some (.d x,σ1):=aF h (aR e (aR d rfl))
theorem aZ(h:aH C a ρ σ=some (v,σ1))(e:view σ1 v=some y)(d:cC k [y]=some x):aH C (.blt k (.cons a .nil)) ρ σ=some (.d x,σ1):=
 B8 (es_1 h) (by simp[LZ,e]) d
theorem Ca{d:List (Int×D)}(h:aH C a ρ σ=some (va,σ1))(m:view σ1 va=some (.dct d))(j:aH C k ρ σ1=some (.d (.int i),σ2))(g:aH C e ρ σ2=some (.d x,σ3))(f:view σ3 va=some (.dct l)):
  aH C (.get a k e) ρ σ=some (.d ((l.lookup i).getD x),σ3):=aF h (aR (HF m) (aF (jZ j) (aF (yo g) (aR (HF f) rfl))))
theorem aM:cu C .nil st=some (.next,st):=rfl
theorem ai(h:fZ C s st=some (.next,st'))(d:cu C r st'=q):cu C (.cons s r) st=q:=aF h d
theorem aU(h:fZ C s st=some (.ret v,st')):cu C (.cons s r) st=some (.ret v,st'):=aF h rfl
theorem oA(h:fZ C s st=some (.cont,st')):cu C (.cons s r) st=some (.cont,st'):=aF h rfl
theorem RN(h:aH C e ρ σ=some (v,σ1))(d:toD σ1 v=some (x,σ2)):wC C e ρ σ=some (x,σ2):=aF h d
theorem qT(h:aH C e ρ σ=some (.d x,σ1)):wC C e ρ σ=some (x,σ1):=RN h rfl
theorem bK(h:aH C e ρ σ=some (.d x,σ1)):fZ C (.asg k e) (ρ,σ)=some (.next,(e9 ρ k (.d x),σ1)):=aF (qT h) rfl
theorem oB(h:aH C e ρ σ=some (.d x,σ1))(d:cD ks x ρ=some ρ'):fZ C (.v5 ks e) (ρ,σ)=some (.next,(ρ',σ1)):=aF (qT h) (aR d rfl)
theorem iz{d:Cell}(h:fK C e ρ σ=some (d,σ1)):fZ C (.qh k e) (ρ,σ)=some (.next,(e9 ρ k (.loc σ1.length),σ1++[d])):=aF h rfl
theorem xw{i j:Int}(h:ρ.lookup k=some (.d (.int i)))(d:aH C e ρ σ=some (.d (.int j),σ1)):fZ C (.aug k e) (ρ,σ)=some (.next,(e9 ρ k (.d (.int (i+j))),σ1)):=aR (NF h) (aF (jZ d) rfl)
theorem iI{d:List D}(h:ρ.lookup k=some (.loc j))(m:σ[j]? =some (.lst l))(i:aH C e ρ σ=some (.d x,σ1))(g:σ1[j]? =some (.lst d))(f:fits d.length=true):fZ C (.app k e) (ρ,σ)=some (.next,(ρ,σ1.set j (.lst (d++[x])))):=aR (Hx h) (aR (BI m) (aF (qT i) (aR (BI g) (bI f rfl))))
theorem HD(h:aH C e ρ σ=some (.d (.bool r),σ1))(f:r=true→cu C s1 (ρ,σ1)=q)(d:r=false→cu C s2 (ρ,σ1)=q):fZ C (.i6 e s1 s2) (ρ,σ)=q:=aF (li h) (by clear h;cases r with
 |true=>exact f rfl
 |false=>exact d rfl)
theorem a7(h:aH C e ρ σ=some (v,σ1)):fZ C (.ret e) (ρ,σ)=some (.ret v,(ρ,σ1)):=aF h rfl
theorem G4(h:fK C e ρ σ=some (cl,σ1)):fZ C (.GJ e) (ρ,σ)=some (.ret (.loc σ1.length),(ρ,σ1++[cl])):=aF h rfl
theorem fW(h:pB C it ρ σ=some (l,σ1))(d:m9 ks (λst=>cu C s st) l (ρ,σ1)=q):fZ C (.jQ ks it s) (ρ,σ)=q:=aF h d
theorem qA(h:qH (λst=>lV (aH C e st.1 st.2)) (λst=>cu C s st) 200 st=q):fZ C (.lO e s) st=q:=h
theorem dK(h:aH C e ρ σ=some (.d x,σ1))(d:items x=some l):pB C (.of e) ρ σ=some (l,σ1):=aF (yo h) (aR d rfl)
theorem it_1(h:aH C e ρ σ=some (.d (.int i),σ1))(d:decide (i.natAbs<1000)=true):pB C (.u7 e) ρ σ=some (upto 0 i,σ1):=aF (jZ h) (bI d rfl)
theorem it_2{i j:Int}(h:aH C e ρ σ=some (.d (.int i),σ1))(f:aH C e2 ρ σ1=some (.d (.int j),σ2))(d:(decide (i.natAbs<1000)&&decide (j.natAbs<1000))=true):pB C (.iH e e2) ρ σ=some (upto i j,σ2):=aF (jZ h) (aF (jZ f) (bI d rfl))
theorem oj(h:aH C e ρ σ=some (.d x,σ1))(d:wy x=some l):pB C (.uf e) ρ σ=some (l,σ1):=aF (yo h) (aR d rfl)
end
namespace Law
noncomputable abbrev Sp:=List (Int×Int)
noncomputable def jx:Int→Sp→Prop
 |_,[]=>True
 |lo,p::r=>lo<p.1∧p.1<p.2∧jx p.2 r
noncomputable def aX(x:Int)(s:Sp):Bool:=s.any λp=>decide (p.1≤x)&&decide (x<p.2)
noncomputable def endOf:Int→Sp→Int
 |lo,[]=>lo
 |_,p::r=>endOf p.2 r
theorem decide_and_eq[Decidable a][Decidable b]:decide (a∧b)=(decide a&&decide b):=Bool.decide_and _ _
theorem decide_or_eq[Decidable a][Decidable b]:decide (a∨b)=(decide a||decide b):=Bool.decide_or _ _
theorem jV(x:Int):aX x []=false:=rfl
theorem br(x:Int)(p:Int×Int)(s:Sp):aX x (p::s)=((decide (p.1≤x)&&decide (x<p.2))||aX x s):=rfl
theorem dh(x:Int)(s t:Sp):aX x (s++t)=(aX x s||aX x t):=List.any_append
theorem cZ(x:Int)(p:Int×Int):aX x [p]=(decide (p.1≤x)&&decide (x<p.2)):=by simp only[br,jV,Bool.or_false]
theorem wk:∀{s:Sp} {a x:Int},jx a s→aX x s=true→a<x:=by
 intro s;induction s with
 |nil=>intro a x _ h;exact ft h
 |cons p r d=>
  intro a x c h;refine bR c λb f e=>?_;simp only[br,Bool.or_eq_true,Bool.and_eq_true]at h;refine Or.elim h (λh=>?_) λh=>?_
  ·have:=of_decide_eq_true h.1;exact JQ b this
  ·have:=d e h;exact vQ b f this
theorem mi(h:jx lo s)(a:x≤lo):aX x s=false:=by
 cases e:aX x s with
 |false=>rfl
 |true=>exact absurd (wk h e) (Int.not_lt.mpr a)
theorem wl:∀{s t:Sp} {f:Int},jx f s→jx f t→(∀x,aX x s=aX x t)→s=t:=by
 intro s;induction s with
 |nil=>
  intro t f _ d h;cases t with
  |nil=>rfl
  |cons q t=>have:=h q.1;simp only[br,decide_eq_true (Int.le_refl _),decide_eq_true d.2.1]at this;exact ft this
 |cons p s r=>
  intro t f hs d h;cases t with
  |nil=>have:=h p.1;simp only[br,decide_eq_true (Int.le_refl _),decide_eq_true hs.2.1]at this;exact tf this
  |cons q t=>
   refine bR hs λy m l=>bR d λw j i=>?_;have c:∀{p q:Int×Int} {s t:Sp},p.1<p.2→jx q.2 t→q.1<q.2→(∀x,aX x (p::s)=aX x (q::t))→q.1≤p.1:=λ{p q s t} n d u h=>by
    have e:=h p.1;simp only[br,decide_eq_true (Int.le_refl _),decide_eq_true n]at e;have e:((decide (q.1≤p.1)&&decide (p.1<q.2))||aX p.1 t)=true:=e.symm;simp only[Bool.or_eq_true,Bool.and_eq_true]at e;refine Or.elim e (λe=>?_) λe=>?_
    ·exact of_decide_eq_true e.1
    ·have:=wk d e;exact KR u this
   have g:=Int.le_antisymm (c j l m λx=>(h x).symm) (c m i j h);have a:∀{p q:Int×Int} {s t:Sp},p.1=q.1→p.1<p.2→jx p.2 s→(∀x,aX x (p::s)=aX x (q::t))→q.2≤p.2:=λ{p q s t} e n hs h=>by
    refine Or.elim (by exact AH:p.2<q.2∨q.2≤p.2) (λz=>?_) λz=>?_
    ·have k:=h p.2;simp only[br,mi hs (Int.le_refl _),decide_eq_true z,decide_eq_true (Lz e n)]at k;simp at k
    ·exact z
   have o:=Int.le_antisymm (a g.symm j i λx=>(h x).symm) (a g m l h);have v:=Prod.ext g o;clear hs d y m w j c g a o;subst v;rw[r l i λx=>?_];refine Or.elim (by exact AH:p.2<x∨x≤p.2) (λz=>?_) λz=>?_
   ·have k:=h x;simp only[br,decide_eq_false (KE z),Bool.and_false]at k;exact k
   ·refine rl (mi l z) (rl (mi i z) ?_);rfl
theorem BR(h:jx lo s)(a:lo'≤lo):jx lo' s:=by
 cases s with
 |nil=>trivial
 |cons p r=>exact⟨Int.lt_of_le_of_lt a h.1,h.2⟩
theorem gh:∀{s:Sp} {b:Int} {p:Int×Int},jx b (s++[p])↔jx b s∧endOf b s<p.1∧p.1<p.2:=by
 intro s;induction s with
 |nil=>intro b p;exact⟨λh=>⟨trivial,h.1,h.2.1⟩,λh=>⟨h.2.1,h.2.2,trivial⟩⟩
 |cons q r i=>
  intro b p;constructor
  ·intro d;refine bR d λg f e=>?_;exact a9 (i.mp e) λl k=>⟨⟨g,f,l⟩,k⟩
  ·intro d;refine a9 d λc j=>bR c λg f e=>?_;exact⟨g,f,i.mpr ⟨e,j⟩⟩
theorem jN:∀{s:Sp} {a:Int} {p:Int×Int},endOf a (s++[p])=p.2:=by
 intro s;induction s with
 |nil=>intro a p;rfl
 |cons q r b=>intro a p;exact b
noncomputable def runs(p:Int→Bool):Nat→Int→Sp
 |0,_=>[]
 |n+1,x=>match p x with
  |true=>match runs p n (x+1)with
   |[]=>[(x,x+1)]
   |q::r=>match decide (q.1=x+1)with
    |true=>(x,q.2)::r
    |false=>(x,x+1)::q::r
  |false=>runs p n (x+1)
theorem yz(p:Int→Bool):∀(n:Nat) (x:Int),jx (x-1) (runs p n x)∧∀y,aX y (runs p n x)=(decide (x≤y)&&decide (y<x+n)&&p y):=by
 intro n;induction n with
 |zero=>
  refineλx=>⟨trivial,λy=>?_⟩;show false=_;by_cases h:x≤y
  ·simp only[decide_eq_false (show¬y<x+((0:Nat):Int) by exact Jz h),Bool.and_false,Bool.false_and]
  ·refine rl (decide_eq_false h) ?_;rfl
 |succ n j=>
  refineλx=>a9 (j (x+1)) λc m=>?_;rw[show x+1-1=x by exact JD]at c;unfold runs;cases e:p x with
  |false=>
   refine⟨BR c (Int.le_of_lt mV),λy=>?_⟩;rw[m];by_cases h:x=y
   ·subst h;refine rl e ?_;rw[Bool.and_false,Bool.and_false]
   ·by_cases d:x≤y
    ·refine rl (decide_eq_true d) (rl (decide_eq_true (show x+1≤y from Int.lt_iff_le_and_ne.mpr ⟨d,h⟩)) ?_);refine rl (show(decide (y<x+1+(n:Int)))=decide (y<x+((n+1:Nat):Int))from decide_eq_decide.mpr xQ) ?_;rfl
    ·refine rl (decide_eq_false d) (rl (decide_eq_false (show¬x+1≤y fromλq=>d (Int.le_of_lt q))) ?_);rfl
  |true=>
   dsimp only;have b:∀y,(decide (x≤y)&&decide (y<x+((n+1:Nat):Int))&&p y)=((decide (x≤y)&&decide (y<x+1))||aX y (runs p n (x+1))):=λy=>by
    rw[m];by_cases h:x=y
    ·subst h;refine rl e (rl (decide_eq_true (Int.le_refl x)) ?_);refine rl (decide_eq_true E0) (rl (decide_eq_true (Int.lt_succ x)) ?_);rfl
    ·by_cases d:x≤y
     ·refine rl (decide_eq_true d) (rl (decide_eq_false (Int.not_lt.mpr (Int.lt_iff_le_and_ne.mpr ⟨d,h⟩))) ?_);refine rl (decide_eq_true (show x+1≤y from Int.lt_iff_le_and_ne.mpr ⟨d,h⟩)) (rl (show(decide (y<x+1+(n:Int)))=decide (y<x+((n+1:Nat):Int))from decide_eq_decide.mpr xQ) ?_);rfl
     ·refine rl (decide_eq_false d) (rl (decide_eq_false (show¬x+1≤y fromλq=>d (Int.le_of_lt q))) ?_);rfl
   cases hr:runs p n (x+1)with
   |nil=>rw[hr]at b;exact⟨⟨mV,Int.lt_succ x,trivial⟩,λy=>by simp only[b,cZ,jV,Bool.or_false]⟩
   |cons q r=>
    dsimp only;rw[hr]at c b;refine bR c λk g i=>?_;by_cases f:q.1=x+1
    ·refine rl (decide_eq_true f) ?_;refine⟨⟨mV,KX g f,i⟩,λy=>?_⟩;rw[b,br,br,←Bool.or_assoc]
     congr 1
     refine rl f ?_;refine rr decide_and_eq (rr decide_and_eq ?_);refine rr decide_and_eq (rr decide_or_eq ?_);exact decide_eq_decide.mpr (KP g f)
    ·exact rl (decide_eq_false f) (⟨⟨mV,Int.lt_succ x,Io k f,g,i⟩,λy=>by rw[b,br]⟩)
noncomputable def row(p:Int→Bool):Sp:=runs p 41 (-20)
theorem kF(p:Int→Bool):jx (-21) (row p):=by have:=(yz p 41 (-20)).1;exact(show(-20:Int)-1= -21 from rfl)▸this
theorem yy(p:Int→Bool)(y:Int):aX y (row p)=(decide (-20≤y)&&decide (y≤20)&&p y):=by simp only[row,(yz p 41 (-20)).2];refine rl (show decide (y< -20+((41:Nat):Int))=decide (y≤20)from decide_eq_decide.mpr (Kr)) ?_;rfl
noncomputable def rW(k:Int)(p:Int→Bool):Prop:=∀x,p x=true→-k≤x∧x≤k
theorem kJ(h:rW k p)(a:k≤20)(y:Int):aX y (row p)=p y:=by
 rw[yy];cases e:p y with
 |false=>rw[Bool.and_false]
 |true=>have:=h y e;refine rl (decide_eq_true (I4 a this)) (rl (decide_eq_true (La a this)) ?_);rfl
theorem row_eq(h:rW k p)(a:k≤20)(c:jx (-21) s)(m:∀x,aX x s=p x):s=row p:=
 wl c (kF p) λx=>by simp only[m,kJ h a]
theorem qp:∀{s:Sp} {b:Int} {k:Nat} {x:Int},jx b s→(∀i p,s[i]? =some p→i<k→p.2≤x)→(∀p,s[k]? =some p→x<p.2)→aX x s=(match s[k]? with |some p=>decide (p.1≤x)|none=>false):=by
 intro s;induction s with
 |nil=>intro b k x _ _ _;rfl
 |cons p r h=>
  intro b k x g e d;refine bR g λm l f=>?_;cases k with
  |zero=>have:=d p rfl;rw[br,mi f (AF this),Bool.or_false,decide_eq_true this,Bool.and_true];rfl
  |succ k=>have:=e 0 p rfl (Nat.succ_pos _);rw[br,decide_eq_false (vX this),Bool.and_false,Bool.false_or];exact h f (λi q c j=>e (i+1) q (by simpa using c) (Lc j)) λq c=>d q (by simpa using c)
noncomputable def k9(found:Sp)(q:Int×Int):Sp:=match decide (q.2≤q.1)with
 |true=>found
 |false=>match found.getLast? with
  |some p=>match decide (q.1≤p.2)with
   |true=>found.dropLast++[(p.1,max p.2 q.2)]
   |false=>found++[q]
  |none=>found++[q]
noncomputable def rD(ps:Sp):Sp:=(cy b9 ps).foldl k9 []
theorem dQ{α:Type}:∀{l:List α} {a:α},l.getLast?=some a→l=l.dropLast++[a]:=by
 intro l a h;cases l with
 |nil=>exact no h
 |cons b r=>
  have:=List.dropLast_concat_getLast (l:=b::r) (by simp);rw[List.getLast?_eq_some_getLast (by simp)]at h
  (revert this;refine one h ?_;intro this)
  exact this.symm
theorem zV:∀(qs:Sp) (d:Sp) (l:Int),jx l d→(∀q∈qs,l<q.1)→(∀p,d.getLast?=some p→∀q∈qs,p.1≤q.1)→qs.Pairwise (λa b=>a.1≤b.1)→
  jx l (qs.foldl k9 d)∧∀x,aX x (qs.foldl k9 d)=(aX x d||aX x qs):=by
 intro qs;induction qs with
 |nil=>intro d l c _ _ _;exact⟨c,λx=>by simp only[jV,Bool.or_false];rfl⟩
 |cons q qs K=>
  intro d l c n E hs;rw[List.pairwise_cons]at hs;simp only[List.foldl_cons];have v:∀f',jx l f'→(∀p,f'.getLast?=some p→∀r∈qs,p.1≤r.1)→(∀x,aX x f'=(aX x d||(decide (q.1≤x)&&decide (x<q.2))))→jx l (qs.foldl k9 f')∧∀x,aX x (qs.foldl k9 f')=(aX x d||aX x (q::qs)):=λf' c' J I=>by exact a9 (K f' l c' (λr k=>n r (.tail _ k)) J hs.2) λN M=>⟨N,λx=>by simp only[M,I,br,Bool.or_assoc]⟩
  have L:=n q (.head _);unfold k9;by_cases o:q.2≤q.1
  ·refine rl (decide_eq_true o) ?_;refine v _ c (λp s r k=>E p s r (.tail _ k)) λx=>?_;have:(decide (q.1≤x)&&decide (x<q.2))=false:=by
    by_cases h:q.1≤x
    ·simp only[decide_eq_false (Kg o h),Bool.and_false]
    ·refine rl (decide_eq_false h) ?_;rfl
   simp only[this,Bool.or_false]
  ·refine rl (decide_eq_false o) ?_;dsimp only;cases e:d.getLast? with
   |none=>
    have:d=[]:=by simpa using e
    subst this;refine v _ ⟨L,mY o,trivial⟩ (λp s r k=>?_) λx=>by simp only[dh,cZ]
    simp only[List.nil_append]at s;exact one s (hs.1 r k)
   |some p=>
    have w:=dQ e;have D:=E p e q (.head _);rw[w]at c;refine bR (gh.mp c) λH G F=>?_;dsimp only;by_cases u:q.1≤p.2
    ·refine rl (decide_eq_true u) ?_;refine v _ (gh.mpr ⟨H,G,Ii F⟩) (λr k t C=>?_) λx=>?_
     ·rw[List.getLast?_concat]at k;refine one k ?_;exact E p e t (.tail _ C)
     ·have O:aX x d=(aX x d.dropLast||(decide (p.1≤x)&&decide (x<p.2))):=by
       conv=>lhs;rw[w]
       simp only[dh,cZ]
      simp only[dh,cZ,O,Bool.or_assoc]
      congr 1
      refine rr decide_and_eq (rr decide_and_eq ?_);refine rr decide_and_eq (rr decide_or_eq ?_);exact decide_eq_decide.mpr ⟨λz=>(Int.lt_or_le x p.2).elim (λy=>.inl ⟨z.1,y⟩) λy=>.inr ⟨Int.le_trans u y,(Bt).elim (λe=>absurd (Int.lt_of_lt_of_le z.2 (Int.le_of_eq e)) (Int.not_lt.mpr y)) λe=>Int.lt_of_lt_of_le z.2 (Int.le_of_eq e)⟩,λz=>z.elim (λz=>⟨z.1,Int.lt_of_lt_of_le z.2 (Int.le_max_left _ _)⟩) λz=>⟨Int.le_trans D z.1,Int.lt_of_lt_of_le z.2 (Int.le_max_right _ _)⟩⟩
    ·refine rl (decide_eq_false u) ?_;refine v _ (gh.mpr ⟨by refine rl w ?_;exact gh.mpr ⟨H,G,F⟩,by refine rl w (rl jN ?_);exact mY u,mY o⟩) (λr k t C=>?_) λx=>by simp only[dh,cZ]
     replace k:=(List.getLast?_concat)▸k;refine one k ?_;exact hs.1 t C
noncomputable def iM(n g:Nat)(ds:List D)(x:D):Prop:=∃r,(SM n).call g (ds.map AR.d)=some (r,[])∧r.data=some x
noncomputable def PA(σ:ak)(v:V):Option D:=b1 (result σ 0 v) AR.data
section
variable{n g:Nat}{ρ ρ' jo:aB}{σ σ1 σ2:ak}{fd:bq}{ds:List D}{x y:D}{v:V}{vs:List V}{l:Ts}{C:Sem}
theorem a6(d:Nat.ble 45 g=false)(f:bz.fns[g]? =some fd)(k:enter fd.params (ds.map AR.d) 0=some (ρ,[]))(j:cu (SM n) fd.body (ρ,[])=some (.ret v,(ρ',σ)))(i:PA σ v=some x):iM (n+1) g ds x:=
 az i λr e h=>⟨r,(fE d f).trans (fC k j (aR rfl (aR e rfl))),h⟩
theorem bT(h:bH (SM n) l ρ σ=some (ds.map V.d,σ1))(a:(SM n).cg g=ds.map λi=>false)(e:iM n g ds x):aH (SM n) (.call g l) ρ σ=some (.d x,σ1):=by
 obtain⟨r,b,f⟩:=e;refine ir h (eR (ks:=[]) ?_ b rfl) f;refine rl a ?_;clear a h b;induction ds with
 |nil=>rfl
 |cons d ds c=>exact aF rfl (tY c rfl)
set_option tactic.hygienic true in
theorem zH{S:Type}{enc:α→D}(f:S→α→S)(R:Nat→S→St→Prop):∀{l:List α} {j:Nat} {s:S} {st:St},R j s st→
  (∀i s a st,l[i]? =some a→R (j+i) s st→∃ρ' fl st',cD ks (enc a) st.1=some ρ'∧body (ρ',st.2)=some (fl,st')∧(∀v,fl≠.ret v)∧R (j+i+1) (f s a) st')→∃st',m9 ks body (l.map enc) st=some (.next,st')∧R (j+l.length) (l.foldl f s) st':=by
 intro l;induction l with
 |nil=>intro j s st b _;exact⟨st,by rw[List.map_nil,m9],b⟩
 |cons x l d=>
  intro j s st b hs;refine iL (hs 0 s x st rfl b) λρ' fl st' o m r h=>ay (d h λi s a st p q=>by
   have:=hs (i+1) s a st (by simpa using p) (rl (show j+(i+1)=j+1+i by lia) q);exact(show j+(i+1)=j+1+i by lia)▸this) λc k e=>?_
  refine⟨c,aR o (aF m ?_),by refine rl List.length_cons ?_;refine rl r4 ?_;exact e⟩;clear d b hs o m h e;cases fl with
  |ret v=>exact absurd rfl (r v)
  |next=>exact k
  |cont=>exact k
theorem cY{α S:Type}{ks:List Nat}{body:St→Option (Fl×St)}{enc:α→D}(f:S→α→S)(R:Nat→S→St→Prop){l:List α}{s:S}{st:St}(h:R 0 s st)
  (b:∀i s a st,l[i]? =some a→R i s st→∃ρ' fl st',cD ks (enc a) st.1=some ρ'∧body (ρ',st.2)=some (fl,st')∧(∀v,fl≠.ret v)∧R (i+1) (f s a) st'):∃st',m9 ks body (l.map enc) st=some (.next,st')∧R l.length (l.foldl f s) st':=by
 have:=zH (ks:=ks) (body:=body) (enc:=enc) f R (l:=l) (j:=0) h λi s a st d c=>by rw[Nat.zero_add]at c⊢;exact b i s a st d c
 rwa[Nat.zero_add]at this
theorem n8{ee:aB→ak→Option (V×ak)}{yS:aB}{acc:List D}(h:ee jo σ=some (.d x,σ))(a:acc.length<4096):vB C ee .nil yS jo σ acc=some (acc++[x],σ):=aF h (aF rfl (bI (Nat.ble_eq.mpr a) rfl))
theorem ul{α:Type}{ee:aB→ak→Option (V×ak)}{xs:List Nat}{it:It}{ifs:Ts}{r:Gs}{yS:aB}{enc:α→D}(t:α→Bool)(f:α→List D){m:List α}{acc:List D}(j:pB C it yS σ=some (m.map enc,σ))
  (c:∀a,a∈m→∃ρ',cD xs (enc a) jo=some ρ'∧dJ C ifs ρ' σ=some (t a,σ)∧(t a=true→∀acc:List D,acc.length+(f a).length<4096→vB C ee r ρ' ρ' σ acc=some (acc++f a,σ)))
  (d:acc.length+((m.filter t).flatMap f).length<4096):vB C ee (.cons xs it ifs r) yS jo σ acc=some (acc++(m.filter t).flatMap f,σ):=by
 refine aF j ?_;clear j;induction m generalizing acc with
 |nil=>rw[List.map_nil,jt];simp
 |cons a m i=>
  refine bG (c a (.head _)) λρ' o k p=>?_;refine rl List.map_cons ?_;cases e:t a with
  |false=>rw[List.filter_cons_of_neg (by refine rl e ?_;exact Bool.false_ne_true)]at d⊢;exact aR (x:=(acc,σ)) (aR o (aF k (by refine rl e ?_;rfl))) (i (λb h=>c b (.tail _ h)) d)
  |true=>rw[List.filter_cons_of_pos e,List.flatMap_cons,List.length_append]at d;rw[List.filter_cons_of_pos e,List.flatMap_cons,←List.append_assoc];exact aR (x:=(acc++f a,σ)) (aR o (aF k (by refine rl e ?_;exact p e acc (by exact Eh d)))) (i (λb h=>c b (.tail _ h)) (by refine rl List.length_append ?_;exact EC d))
theorem n9{ck:List Nat}{e:T}{xs:List Nat}{it:It}{ifs:Ts}{r:Gs}{m:List D}(a:∀x,it≠.iq x)(h:vB C (λρ σ=>aH C e ρ σ) (.cons xs it ifs r) ρ (ρ.filter λp=>ck.contains p.1) σ []=some (m,σ1)):
  aH C (.comp ck e (.cons xs it ifs r)) ρ σ=some (.d (.lst m),σ1):=by
 cases it with
 |iq x=>exact absurd rfl (a x)
 |_=>exact aF h rfl
theorem je{α:Type}{ck:List Nat}{e:T}{xs:List Nat}{it:It}{ifs:Ts}{m:List α}{enc:α→D}(t:α→Bool)(f:α→D)(i:∀x,it≠.iq x)(k:pB C it ρ σ=some (m.map enc,σ))
  (b:∀a,a∈m→∃ρ',cD xs (enc a) (ρ.filter λp=>ck.contains p.1)=some ρ'∧dJ C ifs ρ' σ=some (t a,σ)∧(t a=true→aH C e ρ' σ=some (.d (f a),σ)))(j:m.length<4096):
  aH C (.comp ck e (.cons xs it ifs .nil)) ρ σ=some (.d (.lst ((m.filter t).map f)),σ):=by
 have d:(m.filter t).flatMap (λa=>[f a])=(m.filter t).map f:=by
  induction m.filter t with
  |nil=>rfl
  |cons a l h=>refine rl List.flatMap_cons ?_;refine rl h ?_;rfl
 have:=ul (C:=C) (ee:=λρ σ=>aH C e ρ σ) (xs:=xs) (ifs:=ifs) (r:=.nil) (jo:=ρ.filter λp=>ck.contains p.1) t (λa=>[f a]) (acc:=[]) k (λa o=>by
  refine bG (b a o) λρ' u s q=>?_;exact⟨ρ',u,s,λz acc c=>n8 (q z) (by simp at c;exact rY c)⟩) (by rw[d,List.length_map];have:=List.length_filter_le t m;simp;exact KW j this)
 rw[d]at this;exact n9 i this
theorem comp_map{α:Type}{ck:List Nat}{e:T}{xs:List Nat}{it:It}{m:List α}{enc:α→D}(f:α→D)(d:∀x,it≠.iq x)(i:pB C it ρ σ=some (m.map enc,σ))
  (b:∀a,a∈m→∃ρ',cD xs (enc a) (ρ.filter λp=>ck.contains p.1)=some ρ'∧aH C e ρ' σ=some (.d (f a),σ))(h:m.length<4096):
  aH C (.comp ck e (.cons xs it .nil .nil)) ρ σ=some (.d (.lst (m.map f)),σ):=by
 have:=je (C:=C) (ifs:=.nil) (λc=>true) f d i (λa j=>by
  refine ay (b a j) λρ' o k=>?_;exact⟨ρ',o,and_nil,λc=>k⟩) h
 rwa[List.filter_eq_self.mpr λc c=>rfl]at this
end
noncomputable abbrev bj(s:Sp):D:=.lst (s.map ofPair)
noncomputable abbrev bE(l:List Int):D:=.lst (l.map D.int)
theorem oW(l:List Int):(l.map D.int).mapM c9=some l:=by
 induction l with
 |nil=>rfl
 |cons a l b=>refine rl List.map_cons ?_;refine rl List.mapM_cons ?_;refine rl b ?_;rfl
theorem Fv(l:Sp):(l.map ofPair).mapM asPair=some l:=by
 induction l with
 |nil=>rfl
 |cons a l b=>refine rl List.map_cons ?_;refine rl List.mapM_cons ?_;refine rl b ?_;rfl
theorem sorted_ints{l:List Int}(h:small l.length=true):cC .sorted [bE l]=some (bE (cy fg l)):=by refine bI (by rw[List.length_map];exact h) ?_;unfold yH;rw[oW]
theorem fF{l:Sp}(h:small l.length=true):cC .sorted [bj l]=some (bj (cy b9 l)):=by
 refine bI (by rw[List.length_map];exact h) ?_;unfold yH;rw[Fv];clear h;cases l with
 |nil=>rfl
 |cons a l=>refine rl List.map_cons ?_;refine rl List.mapM_cons ?_;rfl
theorem uB{α:Type}{l:List α}{x:α}:idx (-1) (l++[x]).length=some l.length:=
 bI (decide_eq_true (by simp;exact JU)) (by rw[show(-1+((l++[x]).length:Int)).toNat=l.length by simp;exact J8])
theorem qF{l:List D}{x:D}:hU (.lst (l++[x])) (.int (-1))=some x:=
 (show tF (l++[x]) (.int (-1))=gd (fits 1) (b1 (idx (-1) (l++[x]).length) λk=>(l++[x])[k]?)from rfl).trans (bI rfl (aR uB (by rw[List.getElem?_append_right (Nat.le_refl _),Nat.sub_self];rfl)))
end Law
noncomputable def Ss.get:Ss→Nat→S
 | .nil,_=>.cont
 | .cons s r,n=>match n with |0=>s|n+1=>r.get n
noncomputable def S.loop:S→Ss
 | .jQ _ _ b=>b
 | .lO _ b=>b
 |_=>.nil
namespace Law
theorem fits_of(h:n<4096):fits n=true:=Nat.ble_eq.mpr h
theorem iY(h:n<64):small n=true:=Nat.ble_eq.mpr h
section
variable{C:Sem}{ρ ρ':aB}{σ σ1:ak}{a b c:T}{x y:D}{v:V}{q:Option (Fl×St)}
theorem c8(h:aH C e ρ σ=some (.d (.bool r),σ1))(d:r=true)(f:cu C s1 (ρ,σ1)=q):fZ C (.i6 e s1 s2) (ρ,σ)=q:=HD h (λg=>f) λz=>by rw[d]at z;exact tf z
theorem bu(h:aH C e ρ σ=some (.d (.bool r),σ1))(d:r=false)(f:cu C s2 (ρ,σ1)=q):fZ C (.i6 e s1 s2) (ρ,σ)=q:=HD h (λz=>by rw[d]at z;exact ft z) λg=>f
theorem yJ:fZ C .cont st=some (.cont,st):=rfl
theorem sM(e:ρ.lookup k=some v)(d:view σ v=some (.lst (L++[x]))):aH C (.sub (.var k) (.int (-1))) ρ σ=some (.d x,σ):=
 bf (bY e) rfl d rfl qF
theorem qz(f:ρ.lookup k=some (.loc j))(d:σ1[j]? =some (.lst (L++[y])))(h:aH C e ρ σ=some (.d x,σ1)):fZ C (.jv (.var k) (.int (-1)) e) (ρ,σ)=some (.next,(ρ,σ1.set j (.lst (L++[x])))):=aF (qT h) (aF (yp (bY f)) (aF (jZ rfl) (aR d (aR (aR uB (bI rfl rfl)) (by rw[List.set_append_right _ _ (Nat.le_refl _),Nat.sub_self];rfl)))))
end
theorem lA:∀s:Sp,b7 7 (s.map ofPair)=true:=by
 intro s;induction s with
 |nil=>rfl
 |cons p s d=>simp only[List.map_cons,b7,d];rfl
theorem ug(p q:Int×Int):PyData.eqv (ofPair p).py (ofPair q).py=decide (p=q):=by obtain⟨a,b⟩:=p;obtain⟨c,d⟩:=q;unfold ofPair;simp only[D.py,D.tu,PyData.eqv,PyData.eqvAll,Bool.and_true,Prod.mk.injEq,Bool.decide_and];by_cases h:a=c<;>by_cases h':b=d<;>rfl
theorem rg:∀s t:Sp,PyData.eqvAll (D.tu (s.map ofPair)) (D.tu (t.map ofPair))=decide (s=t):=by
 intro s;induction s with
 |nil=>
  intro t;cases t with
  |nil=>rfl
  |cons q t=>simp only[List.map_cons];rfl
 |cons p s d=>
  intro t;cases t with
  |nil=>simp only[List.map_cons];rfl
  |cons q t=>simp only[List.map_cons,D.tu,PyData.eqvAll,ug,d];simp only[List.cons.injEq,Bool.decide_and]
theorem jP(s t:Sp):Am (bj s) (bj t)=some (decide (s=t)):=by refine bI (show(b7 7 (s.map ofPair)&&b7 7 (t.map ofPair))=true by rw[lA,lA];rfl) ?_;simp only[D.py,PyData.eqv,rg]
theorem ne_nil(s:Sp):gx .ne (bj s) (.lst [])=some (!decide (s=[])):=by show zW _=_;rw[show D.lst []=bj []from rfl,jP];rfl
theorem nJ(t:ps.length<64):iM (n+1) 0 [bj ps] (bj (rD ps)):=by
 have m:(cy b9 ps).length=ps.length:=(cE ps).length_eq;have H:aH (SM n) (.blt .sorted (.cons (.comp [] (.tup (.cons (.blt .int (.cons (.var 1) .nil)) (.cons (.blt .int (.cons (.var 2) .nil)) .nil))) (.cons [1,2] (.of (.var 3)) .nil .nil)) .nil)) [(3,.d (bj ps)),(0,.loc 0)] [.lst []]=some (.d (bj (cy b9 ps)),[.lst []]):=
  aZ (comp_map ofPair (λj z=>It.oe z) rfl (λa j=>⟨[(1,.d (.int a.1)),(2,.d (.int a.2))],rfl,rfl⟩) (i8 t)) rfl (fF (iY t))
 have f:∃st',m9 [1,2] (λst=>cu (SM n) (f0.body.get 1).loop st) ((cy b9 ps).map ofPair) ([(3,.d (bj ps)),(0,.loc 0)],[.lst []])=some (.next,st')∧(rD ps).length≤(cy b9 ps).length∧(st'.1=[(3,.d (bj ps)),(0,.loc 0)]∨∃a b,st'.1=[(3,.d (bj ps)),(0,.loc 0),(1,a),(2,b)])∧st'.2=[.lst ((rD ps).map ofPair)]:=by
  refine cY k9 (λi s st=>s.length≤i∧(st.1=[(3,.d (bj ps)),(0,.loc 0)]∨∃a b,st.1=[(3,.d (bj ps)),(0,.loc 0),(1,a),(2,b)])∧st.2=[.lst (s.map ofPair)]) ⟨Nat.le_refl _,.inl rfl,rfl⟩ λi d q ⟨ρ,σ⟩ B ⟨G,g,r⟩=>?_;have B:=m▸(List.getElem?_eq_some_iff.mp B).1;have M:cD [1,2] (ofPair q) ρ=some [(3,.d (bj ps)),(0,.loc 0),(1,.d (.int q.1)),(2,.d (.int q.2))]:=by rcases g with h|⟨a,b,h⟩<;>(dsimp only at h;subst h;rfl)
  dsimp only at r;subst r;suffices h:∃fl,cu (SM n) (f0.body.get 1).loop ([(3,.d (bj ps)),(0,.loc 0),(1,.d (.int q.1)),(2,.d (.int q.2))],[.lst (d.map ofPair)])=some (fl,([(3,.d (bj ps)),(0,.loc 0),(1,.d (.int q.1)),(2,.d (.int q.2))],[.lst ((k9 d q).map ofPair)]))∧(∀v,fl≠.ret v)∧(k9 d q).length≤i+1 by exact bG h λfl h h' E=>(h9 _ fl _ ⟨M,h,h',E,.inr (fu _ _ rfl),rfl⟩)
  unfold k9;by_cases u:q.2≤q.1
  ·exact rl (decide_eq_true u) (⟨.cont,oA (c8 (aW rfl rfl rfl rfl rfl) (decide_eq_true u) (oA yJ)),(λj z=>by cases z),Nat.le_succ_of_le G⟩)
  ·refine rl (decide_eq_false u) ?_;dsimp only;refine⟨.next,ai (bu (aW rfl rfl rfl rfl rfl) (decide_eq_false u) aM) (ai ?_ aM),(λj z=>Fl.nr z),?_⟩
   ·cases e:d.getLast? with
    |none=>
     have:d=[]:=by simpa using e
     subst this;exact bu (dP (gX (aW rfl rfl rfl rfl (ne_nil [])))) rfl (ai (iI rfl rfl rfl rfl rfl) aM)
    |some p=>
     have J:=dQ e;have I:d.map ofPair=d.dropLast.map ofPair++[ofPair p]:=(congrArg (List.map ofPair) J).trans (by refine rl List.map_append ?_;rfl);have l:decide (d=[])=false:=decide_eq_false (by refine rl J ?_;simp);have A:=λi=>bf (C:=SM n) (b:=.int i) (sM (ρ:=[(3,.d (bj ps)),(0,.loc 0),(1,.d (.int q.1)),(2,.d (.int q.2))]) (σ:=[.lst (d.map ofPair)]) (k:=0) rfl (by show some (D.lst (d.map ofPair))=_;rw[I])) rfl rfl rfl (z:=.int (match decide (i=0)with |true=>p.1|false=>p.2));have K:=and_2 (aW (a:=.var 0) (b:=.lst .nil) rfl rfl rfl rfl (ne_nil d)) λj=>aW (o:=.le) (a:=.var 1) rfl (A 1 rfl) rfl rfl rfl;dsimp only;by_cases g:q.1≤p.2
     ·refine rl (decide_eq_true g) ?_;refine c8 (dP K) (by refine rl l ?_;exact decide_eq_true g) (ai (qz rfl (by refine rr I ?_;rfl) (gw (es_2 (A 0 rfl) (B8 (es_2 (A 1 rfl) rfl) rfl rfl)) rfl rfl)) ?_);exact rl List.map_append aM
     ·refine rl (decide_eq_false g) ?_;refine bu (dP K) (by refine rl l ?_;exact decide_eq_false g) (ai (iI rfl rfl rfl rfl (fits_of (by rw[List.length_map];exact K6 t G B))) ?_);exact rl List.map_append aM
   ·cases e:d.getLast? with
    |none=>simp;assumption
    |some p=>dsimp only;cases decide (q.1≤p.2)<;>simp<;>lia
 refine rS f λw e j g r=>?_;obtain⟨ρ',L⟩:=w;dsimp only at r;subst r;exact a6 rfl rfl rfl (ai (iz rfl) (ai (fW (dK H rfl) e) (aU (a7 (v:=.loc 0) (bY (by clear t m H f j e;rcases g with h|⟨a,b,h⟩<;>(dsimp only at h;subst h;rfl))))))) rfl
set_option tactic.hygienic true in
theorem qI(I:Nat→St→Prop)(Q:St→Prop)
  (h:∀m st,I m st→(∃σ,test st=some (false,σ)∧Q (st.1,σ))∨(∃m' σ1 fl st',m'<m∧test st=some (true,σ1)∧body (st.1,σ1)=some (fl,st')∧(∀v,fl≠.ret v)∧I m' st')):
  ∀(fuel m:Nat) (st:St),I m st→m<fuel→∃st',qH test body fuel st=some (.next,st')∧Q st':=by
 intro fuel;induction fuel with
 |zero=>exactλm st b c=>absurd c (Nat.not_lt_zero _)
 |succ fuel g=>
  refineλm st i c=>Or.elim (h m st i) (λb=>?_) λb=>?_
  ·exact ay b λσ e d=>⟨_,aF e rfl,d⟩
  ·refine D8 b λm' σ1 fl st' n l k o h'=>ay (g m' st' h' (J5 c n)) λf j d=>⟨f,aF l (aF k ?_),d⟩;clear h g i c n l k h' d;cases fl with
   |ret v=>exact absurd rfl (o v)
   |next=>exact j
   |cont=>exact j
theorem oh{n:Nat}(h:k<n):idx (k:Int) n=some k:=by unfold idx;exact rl (decide_eq_true (Int.natCast_nonneg k)) (bI (decide_eq_true (vY h)) rfl)
theorem nA{k:Nat}(h:l[k]? =some x)(b:l.length<4096):hU (.lst l) (.int (k:Int))=some x:=
 have a:=(List.getElem?_eq_some_iff.mp h).1
 rfl.trans (bI (fits_of (Nat.lt_trans a b)) (aR (oh a) h))
theorem eT(h:l.length<4096):cC .len [.lst l]=some (.int (l.length:Int)):=bI (fits_of h) rfl
noncomputable def bl(s:Sp):List Int:=s.flatMap λp=>[p.1,p.2]
theorem l9{n:Nat}(j:s.length<100):iM (n+1) 1 [bj s] (bE (bl s)):=by
 have m:∀(l:Sp) (acc:List Int),l.foldl (λacc p=>acc++[p.1,p.2]) acc=acc++bl l:=by
  intro l;induction l with
  |nil=>intro acc;simp[bl]
  |cons p l q=>intro acc;rw[List.foldl_cons,q];simp[bl]
 obtain⟨⟨ρ',o⟩,e,_,f,c⟩:=cY (body:=λst=>cu (SM n) (f1.body.get 1).loop st) (enc:=ofPair) (s:=[]) (st:=([(4,.d (bj s)),(0,.loc 0)],[.lst []])) (λacc p=>acc++[p.1,p.2])
  (λi acc st=>acc.length=2*i∧(st.1=[(4,.d (bj s)),(0,.loc 0)]∨∃a b,st.1=[(4,.d (bj s)),(0,.loc 0),(1,a),(2,b)])∧st.2=[.lst (acc.map .int)]) ⟨rfl,.inl rfl,rfl⟩ λi acc p ⟨ρ,σ⟩ d ⟨k,f,c⟩=>by
   have d:=(List.getElem?_eq_some_iff.mp d).1;have g:=k▸Nat.mul_le_mul_left 2 (Nat.le_of_lt (Nat.lt_trans d j));have r:cD [1,2] (ofPair p) ρ=some [(4,.d (bj s)),(0,.loc 0),(1,.d (.int p.1)),(2,.d (.int p.2))]:=by rcases f with h|⟨a,b,h⟩<;>(dsimp only at h;subst h;rfl)
   dsimp only at c;subst c;refine(h9 _ .next _ ⟨r,ai (iI rfl rfl rfl rfl (fits_of (by rw[List.length_map];exact Nat.lt_of_le_of_lt g (by decide)))) (ai (iI rfl rfl rfl rfl (fits_of (by rw[List.length_append,List.length_map];exact Nat.lt_of_le_of_lt (Nat.succ_le_succ g) (by decide)))) aM),(λt z=>Fl.nr z),?_,.inr (fu _ _ rfl),?_⟩)
   ·simp;exact JC k
   ·simp
 dsimp only at c;subst c;rw[m,List.nil_append]at*;exact a6 rfl rfl rfl (ai (iz rfl) (ai (fW (dK rfl rfl) e) (aU (a7 (v:=.loc 0) (bY (by clear j m left e;rcases f with h|⟨a,b,h⟩<;>(dsimp only at h;subst h;rfl))))))) rfl
noncomputable def WalkAt(s:Sp)(k:Nat)(x:Int):Prop:=k≤s.length∧∀i p,s[i]? =some p→i<k→p.2≤x
noncomputable abbrev cz(s:Sp)(k:Nat):Cell:=.inst 0 [(4,.d (bj s)),(8,.d (.int (k:Int)))]
theorem rd{s:Sp}(J:jx lo s)(A:s.length<100)(G:WalkAt s k x):∃k',(SM (n+1)).call 4 [.c (cz s k),.d (.int x)]=some (.d (.bool (aX x s)),[cz s k'])∧WalkAt s k' x:=by
 have u:(s.map ofPair).length<4096:=by rw[List.length_map];exact vN A
 have q:∀{k:Nat} {p:Int×Int},s[k]? =some p→hU (bj s) (.int (k:Int))=some (ofPair p):=λ{k p} h=>nA (by refine rl (List.getElem?_map) ?_;refine rl h ?_;rfl) u;have f:∀k:Nat,aH (SM n) (.cmp .lt (.attr (.var 11) 8) (.blt .len (.cons (.attr (.var 11) 4) .nil))) [(11,.loc 0),(10,.d (.int x))] [cz s k]=some (.d (.bool (decide ((k:Int)<((s.map ofPair).length:Int)))),[cz s k]):=
  λk=>aW rfl (aZ rfl rfl (eT u)) rfl rfl rfl
 refine ay (qI (test:=λst=>lV (aH (SM n) (.and (.cons (.cmp .lt (.attr (.var 11) 8) (.blt .len (.cons (.attr (.var 11) 4) .nil))) (.cons (.cmp .le (.sub (.sub (.attr (.var 11) 4) (.attr (.var 11) 8)) (.int 1)) (.var 10)) .nil))) st.1 st.2)) (body:=λst=>cu (SM n) (f4.body.get 0).loop st)
  (λm st=>∃k,st=([(11,.loc 0),(10,.d (.int x))],[cz s k])∧m=s.length-k∧WalkAt s k x) (λst=>∃k,st=([(11,.loc 0),(10,.d (.int x))],[cz s k])∧WalkAt s k x∧∀p,s[k]? =some p→x<p.2) (λm st E=>bG E λk e F y=>by
   clear u E;subst e;by_cases d:k<s.length
   ·have j:s[k]? =some s[k]:=List.getElem?_eq_getElem d;have c:decide ((k:Int)<((s.map ofPair).length:Int))=true:=decide_eq_true (by rw[List.length_map];exact Int.ofNat_lt.mpr d);have t:=dP (and_2 (f k) λC=>aW (o:=.le) (r:=decide (s[k].2≤x)) (b:=.var 10) (bf (bf (a:=.attr (.var 11) 4) (b:=.attr (.var 11) 8) rfl rfl rfl rfl (q j)) (b:=.int 1) rfl rfl rfl rfl) rfl rfl rfl rfl);rw[c]at t;by_cases v:s[k].2≤x
    ·rw[decide_eq_true v]at t;refine .inr (jC (s.length-(k+1)) _ .next _ ⟨Im F d,by refine rl t ?_;rfl,ai rfl aM,(λC z=>Fl.nr z),k+1,rfl,rfl,vV d,λi p B l=>?_⟩);by_cases g:i=k
     ·clear F l;cases g;rw[j]at B;exact one B v
     ·exact y.2 i p B (sq l g)
    ·rw[decide_eq_false v]at t;exact .inl ⟨_,by refine rl t ?_;rfl,k,rfl,y,λp h=>by rw[j]at h;exact one h (mY v)⟩
   ·have c:decide ((k:Int)<((s.map ofPair).length:Int))=false:=decide_eq_false (by rw[List.length_map];exact AE d);have t:=f k;replace t:=c▸t;exact .inl ⟨_,by refine rl (dP (gX t)) ?_;rfl,k,rfl,y,λp h=>Jw d ((List.getElem?_eq_some_iff.mp h).1)⟩) 200 (s.length-k) ([(11,.loc 0),(10,.d (.int x))],[cz s k]) ⟨k,rfl,rfl,G⟩ (Iq A)) λw e D=>?_;obtain⟨ρ',I⟩:=w;refine bG D λk' L H K=>?_
 clear A G u D;cases L;refine⟨k',?_,H⟩;have r:aH (SM n) (.and (.cons (.cmp .lt (.attr (.var 11) 8) (.blt .len (.cons (.attr (.var 11) 4) .nil))) (.cons (.cmp .le (.sub (.sub (.attr (.var 11) 4) (.attr (.var 11) 8)) (.int 0)) (.var 10)) .nil))) [(11,.loc 0),(10,.d (.int x))] [cz s k']=some (.d (.bool (aX x s)),[cz s k']):=by
  refine rl (qp J H.2 K) ?_;cases j:s[k']? with
  |none=>have c:decide ((k':Int)<((s.map ofPair).length:Int))=false:=decide_eq_false (by rw[List.length_map];exact Int.not_lt.mpr (Int.ofNat_le.mpr (List.getElem?_eq_none_iff.mp j)));have t:=f k';replace t:=c▸t;exact dP (gX t)
  |some p=>have d:=(List.getElem?_eq_some_iff.mp j).1;have c:decide ((k':Int)<((s.map ofPair).length:Int))=true:=decide_eq_true (by rw[List.length_map];exact Int.ofNat_lt.mpr d);have t:=dP (and_2 (f k') λC=>aW (o:=.le) (b:=.var 10) (bf (bf (a:=.attr (.var 11) 4) (b:=.attr (.var 11) 8) rfl rfl rfl rfl (q j)) (b:=.int 0) rfl rfl rfl rfl) rfl rfl rfl rfl);rw[c]at t;exact t
 exact rl (fE rfl rfl) (fC rfl (ai (qA e) (aU (a7 r))) rfl)
noncomputable def push(f:List Int)(p:Int):List Int:=match f.getLast? with
 |some b=>match decide (b=p)with
  |true=>f
  |false=>f++[p]
 |none=>[p]
structure MI(A B:List Int)(i j:Nat)(f:List Int):Prop where
 hi:i≤A.length
 hj:j≤B.length
 len:f.length≤i+j
 ri:f.Pairwise (λx y=>x<y)
 mem:∀x,x∈f↔x∈A.take i∨x∈B.take j
 la:∀x∈f,∀a∈A.drop i,x≤a
 lb:∀x∈f,∀b∈B.drop j,x≤b
theorem MI.swap(h:MI A B i j f):MI B A j i f:=
 ⟨h.hj,h.hi,by rw[Nat.add_comm];exact h.len,h.ri,λx=>(h.mem x).trans Or.comm,h.lb,h.la⟩
theorem MI.push{p:Int}(h:MI A B i j f)(t:A[i]? =some p)(hA:A.Pairwise (λx y=>x<y))(G:∀b∈B.drop j,p≤b):MI A B (i+1) j (push f p):=by
 refine aT (List.getElem?_eq_some_iff.mp t) λu e=>?_;have D:A.drop i=p::A.drop (i+1):=by rw[List.drop_eq_getElem_cons u,e]
 have tk:A.take (i+1)=A.take i++[p]:=by refine rl List.take_succ (rl t ?_);rfl
 have w:∀a∈A.drop (i+1),p≤a:=by have:=hA.sublist (List.drop_sublist i A);rw[D,List.pairwise_cons]at this;exactλa m=>Int.le_of_lt (this.1 a m)
 have l:∀x∈f,x≤p:=λx m=>h.la x m p (rl D (.head _));have k:MI A B (i+1) j (f++[p])∨p∈f:=by
  refine(Classical.em (p∈f)).elim (λg=>?_) λg=>?_
  ·exact .inr g
  ·refine .inl ⟨u,h.hj,by refine rl List.length_append ?_;have:=h.len;simp;exact Fq this,?_,λx=>?_,?_,?_⟩
   ·refine List.pairwise_append.mpr ⟨h.ri,List.pairwise_singleton _ _,λx m y F=>?_⟩;rw[List.mem_singleton]at F;clear t hA e D;subst F;exact Int.lt_iff_le_and_ne.mpr ⟨l x m,λz=>g (z▸m)⟩
   ·rw[tk,List.mem_append,List.mem_append,h.mem];rw[List.mem_singleton];exact⟨λz=>by rcases z with(z|z)|z<;>simp[z],λz=>by rcases z with(z|z)|z<;>simp[z]⟩
   ·intro x m a n;rcases List.mem_append.mp m with m|m
    ·exact Int.le_trans (l x m) (w a n)
    ·rw[List.mem_singleton]at m;subst m;exact w a n
   ·intro x m b E;rcases List.mem_append.mp m with m|m
    ·exact Int.le_trans (l x m) (G b E)
    ·rw[List.mem_singleton]at m;subst m;exact G b E
 have s:p∈f→MI A B (i+1) j f:=λg=>⟨u,h.hj,ET h.len,h.ri,λx=>by
   rw[tk,h.mem,List.mem_append,List.mem_singleton];have:=h.mem p;exact⟨λz=>by refine Or.elim z (λz=>?_) λz=>?_<;>simp[z],λz=>by
    rcases z with(z|z)|z
    ·exact .inl z
    ·cases z;exact this.mp g
    ·exact .inr z⟩,
  λx m a n=>Int.le_trans (l x m) (w a n),h.lb⟩
 unfold Law.push;cases hl:f.getLast? with
 |none=>
  have:f=[]:=by simpa using hl
  subst this;exact k.resolve_right (by simp)
 |some b=>
  have q:=dQ hl;dsimp only;by_cases o:b=p
  ·refine rl (decide_eq_true o) ?_;exact s (by refine rl q (rr o ?_);simp)
  ·refine rl (decide_eq_false o) ?_;refine k.resolve_right λg=>?_;rw[q]at g;have r:=h.ri;rw[q]at r;have:=l b (by refine rl q ?_;simp);refine Or.elim (List.mem_append.mp g) (λm=>?_) λm=>?_
   ·exact Int.not_lt.mpr this ((List.pairwise_append.mp r).2.2 p m b (.head _))
   ·rw[List.mem_singleton]at m;exact o m.symm
theorem rm:∀s:List Int,b7 7 (s.map D.int)=true:=by
 intro s;induction s with
 |nil=>rfl
 |cons p s d=>simp only[List.map_cons,b7,d];rfl
theorem B6:∀s t:List Int,PyData.eqvAll (D.tu (s.map D.int)) (D.tu (t.map D.int))=decide (s=t):=by
 intro s;induction s with
 |nil=>
  intro t;cases t with
  |nil=>rfl
  |cons q t=>simp only[List.map_cons];rfl
 |cons p s d=>
  intro t;cases t with
  |nil=>simp only[List.map_cons];rfl
  |cons q t=>
   simp only[List.map_cons,D.tu,PyData.eqvAll,d];simp only[List.cons.injEq,Bool.decide_and]
   rfl
theorem yf(s t:List Int):Am (bE s) (bE t)=some (decide (s=t)):=by refine bI (show(b7 7 (s.map D.int)&&b7 7 (t.map D.int))=true by rw[rm,rm];rfl) ?_;simp only[D.py,PyData.eqv,B6]
section
variable{C:Sem}{ρ ρ':aB}{σ σ1 σ2:ak}{a b c:T}{x y:D}{v:V}{vs:List V}{ms:List Bool}{r:Ts}{cl:Cell}
theorem gK:gi C [] .nil ρ σ=some ([],σ):=rfl
theorem fM(h:aH C a ρ σ=some (.d x,σ1))(e:gi C ms r ρ σ1=some (vs,σ2)):gi C (false::ms) (.cons a r) ρ σ=some (.d x::vs,σ2):=aF (qT h) (aF e rfl)
theorem CV(h:fK C a ρ σ=some (cl,σ1))(e:gi C ms r ρ (σ1++[cl])=some (vs,σ2)):gi C (true::ms) (.cons a r) ρ σ=some (.loc σ1.length::vs,σ2):=aF h (aF e rfl)
theorem gb(h:gi C ms r ρ σ=some (vs,σ1))(d:decide (vs.length=ks.length)=true):fZ C (.lW ks ms r) (ρ,σ)=some (.next,((ks.zip vs).foldl (λρ p=>e9 ρ p.1 p.2) ρ,σ1)):=aF h (bI d rfl)
end
theorem t9{s t:Sp}(hs:s.length<45)(V:t.length<45)(rs:(bl s).Pairwise (λx y=>x<y))(rt:(bl t).Pairwise (λx y=>x<y)):∃P,iM (n+2) 2 [bj s,bj t] (bE P)∧P.Pairwise (λx y=>x<y)∧(∀x,x∈P↔x∈bl s∨x∈bl t)∧P.length<200:=by
 have PZ:∀s:Sp,(bl s).length=2*s.length:=λs=>by
  induction s with
  |nil=>rfl
  |cons p s ih=>rw[bl,List.flatMap_cons,List.length_append,←bl,ih];simp;exact JL
 have U:=PZ s;have T:=PZ t;generalize hA:bl s=A at rs U⊢;generalize hB:bl t=B at rt T⊢;have K:(A.map D.int).length<4096:=by rw[List.length_map];exact xK hs U
 have H:(B.map D.int).length<4096:=by rw[List.length_map];exact xK V T
 let env (i j:Nat) (r:aB):aB:=(6,.d (bj s))::(7,.d (bj t))::(1,.d (bE A))::(5,.d (bE B))::(0,.loc 0)::(8,.d (.int (i:Int)))::(9,.d (.int (j:Int)))::r;have G:∀{L:List Int} {k:Nat} {p:Int},L[k]? =some p→(L.map D.int).length<4096→hU (bE L) (.int (k:Int))=some (.int p):=λ{L k p} h hl=>nA (by rw[List.getElem?_map,h];rfl) hl;have cl:∀(i j:Nat) (r:aB) (σ:ak),aH (SM (n+1)) (.cmp .lt (.var 8) (.blt .len (.cons (.var 1) .nil))) (env i j r) σ=some (.d (.bool (decide (i<A.length))),σ):=λi j r σ=>by have:=aW (C:=SM (n+1)) (o:=.lt) (a:=.var 8) (ρ:=env i j r) (σ:=σ) rfl (aZ (a:=.var 1) rfl rfl (eT K)) rfl rfl rfl;rw[this,List.length_map];simp
 have cr:∀(i j:Nat) (r:aB) (σ:ak),aH (SM (n+1)) (.cmp .lt (.var 9) (.blt .len (.cons (.var 5) .nil))) (env i j r) σ=some (.d (.bool (decide (j<B.length))),σ):=λi j r σ=>by have:=aW (C:=SM (n+1)) (o:=.lt) (a:=.var 9) (ρ:=env i j r) (σ:=σ) rfl (aZ (a:=.var 5) rfl rfl (eT H)) rfl rfl rfl;rw[this,List.length_map];simp
 have ce:∀(i j:Nat) (r:aB) (σ:ak),aH (SM (n+1)) (.cmp .eq (.var 9) (.blt .len (.cons (.var 5) .nil))) (env i j r) σ=some (.d (.bool (decide (j=B.length))),σ):=λi j r σ=>by have:=aW (C:=SM (n+1)) (o:=.eq) (a:=.var 9) (ρ:=env i j r) (σ:=σ) rfl (aZ (a:=.var 5) rfl rfl (eT H)) rfl rfl (r:=decide ((j:Int)=((B.map D.int).length:Int))) rfl;rw[this,List.length_map,show decide ((j:Int)=(B.length:Int))=decide (j=B.length)from decide_eq_decide.mpr (Kn)]
 obtain⟨⟨ρ',σ'⟩,e,f,r,h1,h2⟩:=qI (test:=λst=>lV (aH (SM (n+1)) (.or (.cons (.cmp .lt (.var 8) (.blt .len (.cons (.var 1) .nil))) (.cons (.cmp .lt (.var 9) (.blt .len (.cons (.var 5) .nil))) .nil))) st.1 st.2))
  (λm st=>∃i j f r,st=(env i j r,[.lst (f.map .int)])∧(r=[]∨∃w,r=[(10,w)])∧m=A.length-i+(B.length-j)∧MI A B i j f) (λst=>∃f r,st=(env A.length B.length r,[.lst (f.map .int)])∧MI A B A.length B.length f) (λm st ⟨i,j,f,r,e,O,hm,Q⟩=>by
   subst e;have hi:=Q.hi;have hj:=Q.hj;have lf:=Nat.lt_trans (xM hs V U T (Nat.le_trans Q.len (Nat.add_le_add hi hj))) (show 200<4096 by decide);have J:=or_2 (cl i j r [.lst (f.map .int)]) λzz=>cr i j r [.lst (f.map .int)];by_cases hd:i=A.length∧j=B.length
   ·obtain⟨hd1,hd2⟩:=hd;subst hd1 hd2;exact .inl ⟨_,by dsimp only;rw[fL J,decide_eq_false (Nat.lt_irrefl _),decide_eq_false (Nat.lt_irrefl _)];rfl,f,r,rfl,Q⟩
   ·have tt:(decide (i<A.length)||decide (j<B.length))=true:=by exact rr decide_or_eq (decide_eq_true (Lg hi hj hd))
    replace J:=tt▸J;have Z:∀(i' j':Nat) (p:Int),MI A B i' j' (push f p)→A.length-i+(B.length-j)=A.length-i'+(B.length-j')+1→fZ (SM (n+1)) ((f2.body.get 2).loop.get 0) (env i j r,[.lst (f.map .int)])=some (.next,(env i' j' [(10,.d (.int p))],[.lst (f.map .int)]))→(∃m' σ1 fl st',m'<m∧(λst:St=>lV (aH (SM (n+1)) (.or (.cons (.cmp .lt (.var 8) (.blt .len (.cons (.var 1) .nil))) (.cons (.cmp .lt (.var 9) (.blt .len (.cons (.var 5) .nil))) .nil))) st.1 st.2)) (env i j r,[.lst (f.map .int)])=some (true,σ1)∧(λst=>cu (SM (n+1)) (f2.body.get 2).loop st) (env i j r,σ1)=some (fl,st')∧(∀v,fl≠.ret v)∧∃i j f r,st'=(env i j r,[.lst (f.map .int)])∧(r=[]∨∃w,r=[(10,w)])∧m'=A.length-i+(B.length-j)∧MI A B i j f):=λi' j' p N hm' hs=>by
     refine(jC (A.length-i'+(B.length-j')) ([.lst (f.map .int)]) .next (env i' j' [(10,.d (.int p))],[.lst ((push f p).map .int)]) ⟨EE hm hm',by dsimp only;refine rl (fL J) ?_;rfl,ai hs (ai ?_ aM),(λzz z=>Fl.nr z),i',j',push f p,_,rfl,.inr ⟨_,rfl⟩,rfl,N⟩);have le:=N.len;have SP:=N.hi;have SQ:=N.hj;have en:∀f:List Int,gx .eq (bE f) (.lst [])=some (decide (f=[])):=λf=>yf f [];have fs:fits (f.map D.int).length=true:=fits_of (by rw[List.length_map];exact lf);unfold push;cases hl:f.getLast? with
     |none=>
      have:f=[]:=by simpa using hl
      subst this;exact c8 (fL (C5 (aW rfl rfl rfl rfl (en [])))) rfl (ai (iI rfl rfl rfl rfl rfl) aM)
     |some b=>
      have ef:=dQ hl;have em:f.map D.int=f.dropLast.map D.int++[.int b]:=(congrArg (List.map D.int) ef).trans (by refine rl List.map_append ?_;rfl);have hne:decide (f=[])=false:=decide_eq_false (by refine rl ef ?_;simp);have F:=or_2 (aW (C:=SM (n+1)) (ρ:=env i' j' [(10,.d (.int p))]) (σ:=[.lst (f.map .int)]) (a:=.var 0) (b:=.lst .nil) rfl rfl rfl rfl (en f)) λzz=>aW (o:=.ne) (b:=.var 10) (sM (k:=0) rfl (by show some (D.lst (f.map .int))=_;rw[em])) rfl rfl rfl (r:=!decide (b=p)) rfl;rw[hne,Bool.false_or]at F;dsimp only;by_cases l:b=p
      ·rw[decide_eq_true l]at F⊢;exact bu (fL F) rfl aM
      ·rw[decide_eq_false l]at F⊢;exact c8 (fL F) rfl (ai (iI rfl rfl rfl rfl fs) (rl List.map_append aM))
    refine .inr ?_;refine(Classical.em (j=B.length∨(i<A.length∧∀p q,A[i]? =some p→B[j]? =some q→p≤q))).elim (λE=>?_) λE=>?_
    ·have g:=E.elim (λq=>Nat.lt_of_le_of_ne hi λe=>hd ⟨e,q⟩) λq=>q.1;have u:=List.getElem?_eq_getElem g;refine Z (i+1) j A[i] (Q.push u rs λb l=>?_) (KZ g) ?_
     ·by_cases d:j<B.length
      ·have M:=List.getElem?_eq_getElem d;have I:=(E.resolve_left (AZ d)).2 _ _ u M;rw[List.drop_eq_getElem_cons d]at l;refine Or.elim (List.mem_cons.mp l) (λl=>?_) λl=>?_
       ·exact rl l I
       ·have:=rt.sublist (List.drop_sublist j B);rw[List.drop_eq_getElem_cons d,List.pairwise_cons]at this;exact Int.le_of_lt (Int.lt_of_le_of_lt I (this.1 b l))
      ·replace l:=(List.drop_eq_nil_of_le (vS d))▸l;cases l
     ·refine c8 (fL (σ1:=[.lst (f.map .int)]) ?_) rfl (ai (bK (bf rfl rfl rfl rfl (G u K))) (ai (xw rfl rfl) ?_))
      ·by_cases d:j=B.length
       ·have:=ce i j r [.lst (f.map .int)];rw[decide_eq_true d]at this;exact C5 this
       ·have M:=List.getElem?_eq_getElem (Lj hj d);have S:=ce i j r [.lst (f.map .int)];replace S:=(decide_eq_false d)▸S;have F:=cl i j r [.lst (f.map .int)];rw[decide_eq_true g]at F;have R:=aW (C:=SM (n+1)) (ρ:=env i j r) (σ:=[.lst (f.map .int)]) (o:=.le) (bf (a:=.var 1) (b:=.var 8) rfl rfl rfl rfl (G u K)) (bf (a:=.var 5) (b:=.var 9) rfl rfl rfl rfl (G M H)) rfl rfl (r:=decide (A[i]≤B[j])) rfl;replace R:=(decide_eq_true ((E.resolve_left d).2 _ _ u M))▸R;exact iX S (C5 (dP (ii F (ii R and_nil))))
      ·rcases O with O|⟨w,O⟩<;>(cases O;exact aM)
    ·have d:=Nat.lt_of_le_of_ne hj λe=>E (.inl e);have M:=List.getElem?_eq_getElem d;have Y:∀p,A[i]? =some p→B[j]<p:=λp u=>by
      by_cases z:p≤B[j]
      ·exact absurd (.inr ⟨(List.getElem?_eq_some_iff.mp u).1,λp' q X W=>by rw[u]at X;rw[M]at W;refine one X (one W ?_);exact z⟩) E
      ·exact mY z
     refine Z i (j+1) B[j] (Q.swap.push M rt λb l=>?_).swap (Kh d) ?_
     ·by_cases g:i<A.length
      ·have u:=List.getElem?_eq_getElem g;have I:=Y _ u;rw[List.drop_eq_getElem_cons g]at l;refine Or.elim (List.mem_cons.mp l) (λl=>?_) λl=>?_
       ·exact rl l (AF I)
       ·have:=rs.sublist (List.drop_sublist i A);rw[List.drop_eq_getElem_cons g,List.pairwise_cons]at this;exact Int.le_of_lt (Int.lt_trans I (this.1 b l))
      ·replace l:=(List.drop_eq_nil_of_le (vS g))▸l;cases l
     ·have S:=ce i j r [.lst (f.map .int)];rw[decide_eq_false (AZ d)]at S;have F:=cl i j r [.lst (f.map .int)];refine bu (fL (σ1:=[.lst (f.map .int)]) (iX S (iX (dP ?_) or_nil))) rfl (ai (bK (bf rfl rfl rfl rfl (G M H))) (ai (xw rfl rfl) ?_))
      ·by_cases g:i<A.length
       ·have u:=List.getElem?_eq_getElem g;have R:=aW (C:=SM (n+1)) (ρ:=env i j r) (σ:=[.lst (f.map .int)]) (o:=.le) (bf (a:=.var 1) (b:=.var 8) rfl rfl rfl rfl (G u K)) (bf (a:=.var 5) (b:=.var 9) rfl rfl rfl rfl (G M H)) rfl rfl (r:=decide (A[i]≤B[j])) rfl;rw[decide_eq_false (vW (Y _ u))]at R;rw[decide_eq_true g]at F;exact ii F (gX R)
       ·rw[decide_eq_false g]at F;exact gX F
      ·rcases O with O|⟨w,O⟩<;>(subst O;exact aM)) 200 (A.length-0+(B.length-0)) (env 0 0 [],[.lst []])
  (jC 0 0 ([]) ([]) ⟨rfl,.inl rfl,rfl,Nat.zero_le _,Nat.zero_le _,Nat.zero_le _,List.Pairwise.nil,λx=>by simp,λx h=>(by cases h),λx h=>by cases h⟩) (Ft hs V U T)
 cases h1;refine⟨f,?_,h2.ri,λx=>by rw[h2.mem,List.take_length,List.take_length],xM hs V U T h2.len⟩;exact a6 rfl rfl rfl (ai (gb (fM (bT (ds:=[bj s]) rfl rfl (hA▸l9 (Nat.lt_trans hs (by decide)))) (fM (bT (ds:=[bj t]) rfl rfl (hB▸l9 (Nat.lt_trans V (by decide)))) gK)) rfl) (ai (gb rfl rfl) (ai (qA e) (aU (a7 rfl))))) rfl
theorem Dy{P:List Int}{i:Nat}(r:P.Pairwise (λx y=>x<y))(m:P[i]? =some a)(l:P[i+1]? =some b)(o:a≤x)(n:x<b)(c:Int)(k:c∈P):c≤a↔c≤x:=by
 refine aT (List.mem_iff_getElem.mp k) λj s=>?_;obtain⟨g,e⟩:=s;refine aT (List.getElem?_eq_some_iff.mp m) λt q=>?_;clear m k;refine aT (List.getElem?_eq_some_iff.mp l) λf p=>?_;have r:=List.pairwise_iff_getElem.mp r;constructor
 ·intro h;exact Kw o h
 ·intro h;clear l o;rcases(by exact Jd:j<i∨j=i∨j=i+1∨i+1<j)with z|z|z|z
  ·have:=r j i g t z;exact Iw e q this
  ·subst z;exact Int.le_of_eq (e.symm.trans q)
  ·subst z;exact absurd h (Int.not_le.mpr (p.symm.trans e▸n))
  ·have:=r (i+1) j f g z;exact Ih n e p h this
theorem uP{P:List Int}(h:∀c∈P,c≤a↔c≤x):∀s:Sp,(∀c∈bl s,c∈P)→aX x s=aX a s:=by
 intro s;induction s with
 |nil=>intro _;rfl
 |cons p s d=>intro hs;have g:=h p.1 (hs _ (by simp[bl]));have f:=h p.2 (hs _ (by simp[bl]));simp only[br,d λc e=>hs c (by dsimp only[bl];exact List.mem_append_right _ e),decide_eq_decide.mpr g.symm,show decide (x<p.2)=decide (a<p.2)from decide_eq_decide.mpr (Ja f)]
theorem uO:∀s:Sp,(∀c∈bl s,x<c)→aX x s=false:=by
 intro s;induction s with
 |nil=>intro _;rfl
 |cons p s d=>intro hs;have f:=hs p.1 (by simp[bl]);simp only[br,d λc e=>hs c (by dsimp only[bl];exact List.mem_append_right _ e),decide_eq_false (vW f)];rfl
theorem rB:∀s:Sp,(∀c∈bl s,c≤x)→aX x s=false:=by
 intro s;induction s with
 |nil=>intro _;rfl
 |cons p s d=>intro hs;have f:=hs p.2 (by simp[bl]);simp only[br,d λc e=>hs c (by dsimp only[bl];exact List.mem_append_right _ e),decide_eq_false (vX f),Bool.and_false];rfl
noncomputable def nQ(k:Bool)(a b:Int)(found:Sp):Sp:=match k with
 |false=>found
 |true=>match found.getLast? with
  |some p=>match decide (p.2=a)with
   |true=>found.dropLast++[(p.1,b)]
   |false=>found++[(a,b)]
  |none=>[(a,b)]
structure PI(lo:Int)(K:Bool→Bool→Bool)(s t:Sp)(a:Int)(f:Sp):Prop where
 c:jx lo f
 e:endOf lo f≤a
 m:∀x,aX x f=(decide (x<a)&&K (aX x s) (aX x t))
theorem PI.step{i:Int}{b:Int}{f:Sp}(h:PI i K s t a f)(j:i<a)(d:a<b)(hs:∀x,a≤x→x<b→aX x s=aX a s)(o:∀x,a≤x→x<b→aX x t=aX a t):
  PI i K s t b (nQ (K (aX a s) (aX a t)) a b f):=by
 have e:∀x,(decide (x<b)&&K (aX x s) (aX x t))=((decide (x<a)&&K (aX x s) (aX x t))||(K (aX a s) (aX a t)&&(decide (a≤x)&&decide (x<b)))):=λx=>by
  refine Or.elim ((Int.lt_or_le x a).elim .inl λz=>.inr ((Int.lt_or_le x b).elim (λy=>.inl ⟨z,y⟩) .inr):x<a∨(a≤x∧x<b)∨b≤x) (λz=>?_) λn=>Or.elim n (λz=>?_) λz=>?_
  ·simp only[decide_eq_true (IS d z),decide_eq_true z,decide_eq_false (vW z),Bool.false_and,Bool.and_false,Bool.or_false]
  ·refine rl (decide_eq_true z.2) (rl (decide_eq_false (Int.not_lt.mpr z.1)) ?_);refine rl (decide_eq_true z.1) (rl (hs x z.1 z.2) ?_);refine rl (o x z.1 z.2) ?_;simp
  ·refine rl (decide_eq_false (vX z)) ?_;simp only[decide_eq_false (IZ d z),Bool.and_false];rfl
 unfold nQ;cases hk:K (aX a s) (aX a t)with
 |false=>refine⟨h.c,AL d h.e,λx=>?_⟩;simp only[e,hk,Bool.false_and,Bool.or_false];exact h.m x
 |true=>
  replace e:=hk▸e;dsimp only;cases hl:f.getLast? with
  |none=>
   have:f=[]:=by simpa using hl
   subst this;exact⟨⟨j,d,trivial⟩,Int.le_refl b,λx=>by simp only[e,←h.m,cZ,jV];rfl⟩
  |some p=>
   have k:=dQ hl;have l:=h.c;rw[k]at l;refine bR (gh.mp l) λA w m=>?_;have q:=h.e;have u:∀x,aX x f=(aX x f.dropLast||(decide (p.1≤x)&&decide (x<p.2))):=λx=>by
    conv=>lhs;rw[k]
    simp only[dh,cZ]
   have ee:endOf i f=p.2:=by refine rl k (rl jN ?_);rfl
   dsimp only;by_cases g:p.2=a
   ·refine rl (decide_eq_true g) ?_;refine⟨gh.mpr ⟨A,w,Lb d m g⟩,rl jN (Int.le_refl _),λx=>?_⟩;simp only[e,←h.m,u,dh,cZ,Bool.or_assoc]
    congr 1
    refine rr decide_and_eq (rr decide_and_eq ?_);refine rr decide_and_eq (rr decide_or_eq ?_);exact decide_eq_decide.mpr (IG d m g)
   ·refine rl (decide_eq_false g) ?_;refine⟨gh.mpr ⟨h.c,JR q ee g,d⟩,rl jN (Int.le_refl _),λx=>?_⟩;simp only[e,←h.m,dh,cZ,Bool.true_and]
theorem Ah(k:Bool)(a b:Int)(f:Sp):(nQ k a b f).length≤f.length+1:=by
 unfold nQ;cases k with
 |false=>exact Nat.le_succ _
 |true=>
  dsimp only;cases f.getLast? with
  |none=>simp
  |some p=>dsimp only;cases decide (p.2=a)<;>simp<;>omega
section
variable{C:Sem}{ρ ρ':aB}{σ σ1 σ2:ak}{a b c:T}{x y:D}{v:V}{vs:List V}{ms:List Bool}{r:Ts}{cl:Cell}
theorem rq{ds:List D}:jh σ (ds.map λf=>false) (ds.map V.d)=some (ds.map AR.d,σ,[]):=by
 induction ds with
 |nil=>rfl
 |cons d ds e=>exact aF rfl (tY e rfl)
theorem o6{ds:List D}(h:C.new k (ds.map .d)=some ar):jb C k σ (ds.map V.d)=some (ar,σ):=by unfold jb;refine rl List.map_map (rl (show((λd=>false)∘V.d:D→Bool)=λd=>false from rfl) ?_);refine rl rq ?_;exact tY rfl (aR h rfl)
theorem yn{ds:List D}(d:bH C r ρ σ=some (ds.map V.d,σ1))(h:C.new k (ds.map .d)=some (.c cl)):fK C (.new k r) ρ σ=some (cl,σ1):=aF d (Hh (o6 h))
end
theorem uR:(SM (n+1)).new 0 [.d (bj s)]=some (.c (cz s 0)):=by
 refine rl (yD rfl rfl) ?_
 rfl
theorem sF:∀{s:Sp} {g:Int},jx g s→(∀c∈bl s,g<c)∧(bl s).Pairwise (λx y=>x<y):=by
 intro s;induction s with
 |nil=>intro g _;exact⟨λc h=>(by cases h),List.Pairwise.nil⟩
 |cons p s m=>
  intro g l;refine bR l λk i o=>?_;obtain⟨j,n⟩:=m o;have e:bl (p::s)=p.1::p.2::bl s:=by rfl
  refine rl e ?_;refine⟨λc f=>?_,List.pairwise_cons.mpr ⟨λc f=>?_,List.pairwise_cons.mpr ⟨j,n⟩⟩⟩
  ·refine Or.elim (List.mem_cons.mp f) (λh=>?_) λf=>?_
   ·exact xU k h
   ·refine Or.elim (List.mem_cons.mp f) (λh=>?_) λf=>?_
    ·exact JE k i h
    ·have:=j c f;exact vQ k i this
  ·refine Or.elim (List.mem_cons.mp f) (λh=>?_) λf=>?_
   ·exact xU i h
   ·have:=j c f;exact LJ i this
theorem BP{K:Bool→Bool→Bool}(hK:∀a b,(SM (n+2)).lam k [] [.bool a,.bool b]=some (.bool (K a b)))(h0:K false false=false)(hs:jx lo s)(ht:jx lo t)(ls:s.length<45)(lt:t.length<45):
  ∃f,iM (n+3) 5 [bj s,bj t,.ie k []] (bj f)∧jx lo f∧∀x,aX x f=K (aX x s) (aX x t):=by
 obtain⟨P,hP,U,mP,lP⟩:=t9 ls lt (sF hs).2 (sF ht).2;have T:(P.map D.int).length<4096:=by rw[List.length_map];exact Lw lP
 have H:∀c∈bl s,c∈P:=λc h=>(mP c).mpr (.inl h);have G:∀c∈bl t,c∈P:=λc h=>(mP c).mpr (.inr h);have V:∀c∈P,lo<c:=λc h=>by
  rcases(mP c).mp h with h|h
  ·exact(sF hs).1 c h
  ·exact(sF ht).1 c h
 have at_:∀{k:Nat} {p:Int},P[k]? =some p→hU (bE P) (.int (k:Int))=some (.int p):=λ{k p} h=>nA (by rw[List.getElem?_map,h];rfl) T;let env (r:aB):aB:=(6,.d (bj s))::(7,.d (bj t))::(15,.d (.ie k []))::(0,.loc 0)::(1,.loc 1)::(5,.loc 2)::(12,.d (bE P))::r;obtain⟨⟨ρ',σ'⟩,e,-,q,i',j',S,-,-,O⟩:=cY (ks:=[8]) (l:=List.range (P.length-1)) (s:=([]:Sp)) (st:=(env [],[.lst [],cz s 0,cz t 0]))
  (λf k=>nQ (K (aX (P.getD k 0) s) (aX (P.getD k 0) t)) (P.getD k 0) (P.getD (k+1) 0) f)
  (λi f st=>f.length≤i∧(∃r,st.1=env r∧(r=[]∨∃a b c,r=[(8,a),(13,b),(14,c)]))∧∃i' j',st.2=[.lst (f.map ofPair),cz s i',cz t j']∧(∀x,P[i]? =some x→WalkAt s i' x)∧(∀x,P[i]? =some x→WalkAt t j' x)∧∀x,P[i]? =some x→PI lo K s t x f)
  ⟨Nat.le_refl _,⟨[],rfl,.inl rfl⟩,0,0,rfl,λA A=>⟨Nat.zero_le _,λA A A h=>absurd h (Nat.not_lt_zero _)⟩,λA A=>⟨Nat.zero_le _,λA A A h=>absurd h (Nat.not_lt_zero _)⟩,λx g=>⟨trivial,Int.le_of_lt (V x (List.mem_of_getElem? g)),λy=>by
   show false=_;by_cases hy:y<x
   ·have O:∀c∈P,y<c:=λc B=>by
     obtain⟨j,M,e⟩:=List.mem_iff_getElem.mp B;obtain⟨Y,ea⟩:=List.getElem?_eq_some_iff.mp g;rcases Nat.eq_zero_or_pos j with z|z
     ·subst z;exact(ea.symm.trans e)▸hy
     ·have:=List.pairwise_iff_getElem.mp U 0 j Y M z;exact H8 hy e ea this
    rw[uO s λc B=>O c (H c B),uO t λc B=>O c (G c B),h0,Bool.and_false]
   ·rw[decide_eq_false hy];rfl⟩⟩ λi f X ⟨ρ,σ⟩ Y ⟨hf,⟨r,F,q⟩,i',j',S,w1,w2,O⟩=>by
    obtain⟨M,ei⟩:=List.getElem?_eq_some_iff.mp Y;rw[List.getElem_range]at ei;subst ei;rw[List.length_range]at M;dsimp only at F S;subst F S;have l1:=Nat.add_lt_of_lt_sub M;have W:=Nat.lt_of_succ_lt l1;have N:=List.getElem?_eq_getElem W;have E:=List.getElem?_eq_getElem l1;have Q:=List.pairwise_iff_getElem.mp U i (i+1) W l1 (Jk);rw[show P.getD i 0=P[i] by rw[List.getD_eq_getElem?_getD,N];rfl,show P.getD (i+1) 0=P[i+1] by rw[List.getD_eq_getElem?_getD,E];rfl];obtain⟨X,R,SD⟩:=rd (n:=n+1) hs (r6 ls) (w1 _ N);obtain⟨j2,c2,SE⟩:=rd (n:=n+1) ht (r6 lt) (w2 _ N);have pi:=(O _ N).step (V _ (List.mem_of_getElem? N)) Q (λx z1 z2=>uP (Dy U N E z1 z2) s H) (λx z1 z2=>uP (Dy U N E z1 z2) t G);have L:∀{s:Sp} {k:Nat} {x y:Int},WalkAt s k x→x<y→WalkAt s k y:=λw hxy=>⟨w.1,λi p Y hk=>AL hxy (w.2 i p Y hk)⟩;suffices h:∃fl,cu (SM (n+2)) (f5.body.get 2).loop (env ([(8,.d (.int (0+(i:Int))))]++r.drop 1),[.lst (f.map ofPair),cz s i',cz t j'])=some (fl,(env [(8,.d (.int (0+(i:Int)))),(13,.d (.int P[i])),(14,.d (.int P[i+1]))],[.lst ((nQ (K (aX P[i] s) (aX P[i] t)) P[i] P[i+1] f).map ofPair),cz s X,cz t j2]))∧∀v,fl≠.ret v by
     obtain⟨fl,h,h'⟩:=h;refine⟨_,fl,_,?_,h,h',Nat.le_trans (Ah ..) (r9 hf),⟨_,rfl,.inr ⟨_,_,_,rfl⟩⟩,X,j2,rfl,λx g=>?_,λx g=>?_,λx g=>?_⟩
     ·rcases q with q|⟨u,v,w,q⟩<;>(subst q;rfl)
     ·rw[E]at g;exact one g (L SD Q)
     ·rw[E]at g;exact one g (L SE Q)
     ·rw[E]at g;exact one g pi
    have Z:∀{r:aB},((r=[]∨∃a b c,r=[(8,a),(13,b),(14,c)])→fZ (SM (n+2)) ((f5.body.get 2).loop.get 0) (env ([(8,.d (.int (0+(i:Int))))]++r.drop 1),[.lst (f.map ofPair),cz s i',cz t j'])=some (.next,(env [(8,.d (.int (0+(i:Int)))),(13,.d (.int P[i])),(14,.d (.int P[i+1]))],[.lst (f.map ofPair),cz s i',cz t j']))):=λ{r} q=>by
     have e1:∀r',gi (SM (n+2)) [false,false] (.cons (.sub (.var 12) (.var 8)) (.cons (.sub (.var 12) (.bin .add (.var 8) (.int 1))) .nil)) (env ((8,.d (.int (0+(i:Int))))::r')) [.lst (f.map ofPair),cz s i',cz t j']=some ([.d (.int P[i]),.d (.int P[i+1])],[.lst (f.map ofPair),cz s i',cz t j']):=λr'=>
      fM (bf rfl rfl rfl rfl (by rw[Int.zero_add];exact at_ N)) (fM (bf rfl (aQ rfl rfl rfl rfl rfl) rfl rfl (by rw[Int.zero_add];exact at_ E)) gK)
     rcases q with q|⟨u,v,w,q⟩<;>(subst q;exact gb (e1 _) rfl)
    have I:aH (SM (n+2)) (.not (.kU 15 (.cons (.di 16 (.var 1) (.cons (.var 13) .nil)) (.cons (.di 16 (.var 5) (.cons (.var 13) .nil)) .nil)))) (env [(8,.d (.int (0+(i:Int)))),(13,.d (.int P[i])),(14,.d (.int P[i+1]))]) [.lst (f.map ofPair),cz s i',cz t j']=some (.d (.bool (!(K (aX P[i] s) (aX P[i] t)))),[.lst (f.map ofPair),cz s X,cz t j2]):=
     wF (pC rfl (es_2 (sO rfl rfl rfl rfl (es_1 rfl) (eR rfl R rfl) rfl) (sO rfl rfl rfl rfl (es_1 rfl) (eR rfl c2 rfl) rfl)) rfl (hK _ _))
    have fs:fits (f.map ofPair).length=true:=fits_of (by rw[List.length_map];exact KO lP hf M);unfold nQ;cases hk:K (aX P[i] s) (aX P[i] t)with
    |false=>rw[hk]at I;exact⟨.cont,ai (Z q) (oA (c8 I rfl (oA yJ))),λA z=>by cases z⟩
    |true=>
     rw[hk]at I;refine⟨.next,ai (Z q) (ai (bu I rfl aM) (ai ?_ aM)),λA z=>Fl.nr z⟩;dsimp only;cases hl:f.getLast? with
     |none=>
      have:f=[]:=by simpa using hl
      subst this;exact bu (dP (gX (aW rfl rfl rfl rfl (ne_nil [])))) rfl (ai (iI rfl rfl rfl rfl rfl) aM)
     |some p=>
      have ef:=dQ hl;have em:f.map ofPair=f.dropLast.map ofPair++[ofPair p]:=(congrArg (List.map ofPair) ef).trans (by refine rl List.map_append ?_;rfl);have hne:decide (f=[])=false:=decide_eq_false (by refine rl ef ?_;simp);have W:=λm=>bf (C:=SM (n+2)) (b:=.int m) (sM (ρ:=env [(8,.d (.int (0+(i:Int)))),(13,.d (.int P[i])),(14,.d (.int P[i+1]))]) (σ:=[.lst (f.map ofPair),cz s X,cz t j2]) (k:=0) rfl (by show some (D.lst (f.map ofPair))=_;rw[em])) rfl rfl rfl (z:=.int (match decide (m=0)with |true=>p.1|false=>p.2));have R:=and_2 (aW (a:=.var 0) (b:=.lst .nil) rfl rfl rfl rfl (ne_nil f)) λA=>aW (o:=.eq) (b:=.var 13) (W 1 rfl) rfl rfl rfl (r:=decide (p.2=P[i])) rfl;rw[hne,Bool.not_false,Bool.true_and]at R;dsimp only;by_cases F:p.2=P[i]
      ·rw[decide_eq_true F]at R⊢;refine c8 (dP R) rfl (ai (qz rfl (by refine rr em ?_;rfl) (gw (es_2 (W 0 rfl) rfl) rfl rfl)) ?_);exact rl List.map_append aM
      ·rw[decide_eq_false F]at R⊢;refine bu (dP R) rfl (ai (iI rfl rfl rfl rfl fs) ?_);exact rl List.map_append aM
 dsimp only at S;subst S;generalize hF:(List.range (P.length-1)).foldl (λf k=>nQ (K (aX (P.getD k 0) s) (aX (P.getD k 0) t)) (P.getD k 0) (P.getD (k+1) 0) f) []=f at*;rw[List.length_range]at O;refine⟨f,?_,?_⟩
 ·refine a6 (ρ':=ρ') (σ:=[.lst (f.map ofPair),cz s i',cz t j']) rfl rfl rfl (ai (gb (CV rfl (CV (yn (ds:=[bj s]) rfl uR) (CV (yn (ds:=[bj t]) rfl uR) gK))) rfl) (ai (bK (bT rfl rfl hP)) (ai (fW (it_1 (aQ (aZ rfl rfl (eT T)) rfl rfl rfl rfl) ?_) ?_) (aU (a7 (v:=.loc 0) (bY ?_)))))) rfl
  ·rw[List.length_map];exact decide_eq_true (Lf lP)
  ·simp only[upto,List.length_map,show(((P.length:Int)-1)-0).toNat=P.length-1 by exact Kz];exact e
  ·refine ay q λr F q=>?_;dsimp only at F;refine rl F ?_
   rfl
 ·cases QC:P.getLast? with
  |none=>
   have:P=[]:=by simpa using QC
   subst this;have e1:∀s:Sp,(∀c∈bl s,c∈([]:List Int))→s=[]:=λs h=>by
    cases s with
    |nil=>rfl
    |cons p s=>cases h p.1 (by simp[bl])
   refine rl (e1 s H) (rl (e1 t G) ?_);have:f=[]:=by refine rr hF ?_;rfl
   subst this;exact⟨trivial,λx=>h0.symm⟩
  |some b=>
   have eb:P[P.length-1]? =some b:=by refine rr QC (rl (List.getLast?_eq_getElem?) ?_);rfl
   obtain⟨F,S,h3⟩:=O b eb;refine⟨F,λx=>?_⟩;rw[h3];by_cases g:x<b
   ·refine rl (decide_eq_true g) ?_;rw[Bool.true_and]
   ·have E:∀c∈P,c≤x:=λc B=>by
     refine aT (List.mem_iff_getElem.mp B) λj zq=>?_;obtain⟨M,e⟩:=zq;obtain⟨hl,eb⟩:=List.getElem?_eq_some_iff.mp eb;refine Or.elim (by exact JG M:j=P.length-1∨j<P.length-1) (λz=>?_) λz=>?_
     ·subst z;exact(eb.symm.trans e)▸Int.not_lt.mp g
     ·have:=List.pairwise_iff_getElem.mp U j (P.length-1) M hl z;exact JM g e eb this
    refine rl (decide_eq_false g) (rl (rB s λc B=>E c (H c B)) ?_);refine rl (rB t λc B=>E c (G c B)) (rl h0 ?_);rfl
theorem Du(p:Int→Bool):∀(n:Nat) (x:Int),(runs p n x).length≤n:=by
 intro n;induction n with
 |zero=>intro x;exact Nat.le_refl _
 |succ n a=>
  intro x;have:=a (x+1);unfold runs;cases p x with
  |false=>exact Nat.le_succ_of_le this
  |true=>
   dsimp only;cases h:runs p n (x+1)with
   |nil=>exact Nat.succ_le_succ (Nat.zero_le _)
   |cons q r=>
    replace this:=h▸this;dsimp only;cases decide (q.1=x+1)
    ·exact Nat.succ_le_succ this
    ·exact Nat.le_succ_of_le this
theorem tD(p:Int→Bool):(row p).length<45:=Nat.lt_of_le_of_lt (Du p 41 (-20)) (by decide)
noncomputable abbrev OM(a b:Bool):Bool:=a||b
noncomputable abbrev qN(a b:Bool):Bool:=a&&b
noncomputable abbrev q5(a b:Bool):Bool:=a&& !b
noncomputable abbrev HT(a b:Bool):Bool:=!decide (a=b)
noncomputable def tQ(n g:Nat)(K:Bool→Bool→Bool):Prop:=K false false=false∧∀{p q:Int→Bool},rW 20 p→rW 20 q→iM n g [bj (row p),bj (row q)] (bj (row λx=>K (p x) (q x)))
theorem N4{K:Bool→Bool→Bool}(c:K false false=false)(b:rW k p)(a:rW k q):rW k λx=>K (p x) (q x):=λx h=>by
 cases e:p x with
 |true=>exact b x e
 |false=>
  cases e2:q x with
  |true=>exact a x e2
  |false=>dsimp only at h;simp only[e,e2,c]at h;exact ft h
theorem ow{K:Bool→Bool→Bool}(g:∀a b,(SM (n+2)).lam k [] [.bool a,.bool b]=some (.bool (K a b)))(e:K false false=false)(d:rW 20 p)(c:rW 20 q):iM (n+3) 5 [bj (row p),bj (row q),.ie k []] (bj (row λx=>K (p x) (q x))):=bG (BP g e (kF p) (kF q) (tD p) (tD q)) λf j i h=>(row_eq (N4 e d c) (Int.le_refl _) i λx=>by simp only[h,kJ d (Int.le_refl _),kJ c (Int.le_refl _)])▸j
theorem Ms:tQ (n+4) 6 OM:=⟨rfl,λd c=>a6 rfl rfl rfl (aU (a7 (bT rfl rfl (ow (λa b=>by refine rl (kK rfl rfl) ?_;cases a<;>cases b<;>rfl) rfl d c)))) rfl⟩
theorem yv:tQ (n+4) 7 qN:=⟨rfl,λd c=>a6 rfl rfl rfl (aU (a7 (bT rfl rfl (ow (λa b=>by refine rl (kK rfl rfl) ?_;cases a<;>cases b<;>rfl) rfl d c)))) rfl⟩
theorem Dc:tQ (n+4) 8 q5:=⟨rfl,λd c=>a6 rfl rfl rfl (aU (a7 (bT rfl rfl (ow (λa b=>by refine rl (kK rfl rfl) ?_;cases a<;>cases b<;>rfl) rfl d c)))) rfl⟩
theorem GF:tQ (n+4) 9 HT:=⟨rfl,λd c=>a6 rfl rfl rfl (aU (a7 (bT rfl rfl (ow (λa b=>by refine rl (kK rfl rfl) ?_;cases a<;>cases b<;>rfl) rfl d c)))) rfl⟩
theorem FQ{s:Sp}(h:jx lo s)(a:∀x,aX x s=true→lo'<x):jx lo' s:=by
 cases s with
 |nil=>trivial
 |cons p r=>exact⟨a p.1 (by simp only[br,decide_eq_true (Int.le_refl _),decide_eq_true h.2.1];rfl),h.2⟩
theorem zR(h:s.Perm t)(x:Int):aX x s=aX x t:=by
 cases e:aX x t with
 |true=>exact ay (List.any_eq_true.mp e) λp a e=>List.any_eq_true.mpr ⟨p,h.mem_iff.mpr a,e⟩
 |false=>
  cases e':aX x s with
  |false=>rfl
  |true=>exact ay (List.any_eq_true.mp e') λp a z=>rr e ((List.any_eq_true.mpr ⟨p,h.mem_iff.mp a,z⟩).symm)
theorem mK(l:Sp):(cy b9 l).Pairwise λa b=>b9 a b=true:=by
 refine gJ (λa b=>?_) (λa b c=>?_) l
 ·simp only[b9,←decide_and_eq,←decide_or_eq,decide_eq_true_eq];exact Bo
 ·simp only[b9,←decide_and_eq,←decide_or_eq,decide_eq_true_eq];exact Bs
theorem uU(h:∀q∈ps,-21<q.1)(hs:rW 20 λx=>aX x ps):rD ps=row λx=>aX x ps:=by
 have d:=cE (le:=b9) ps;refine a9 (zV (cy b9 ps) [] (-21) trivial (λq f=>h q (d.mem_iff.mp f)) (λp e=>no e) ((mK ps).imp λ{a b} h=>by
  simp only[b9,←decide_and_eq,←decide_or_eq,decide_eq_true_eq]at h;exact Ir h)) λc m=>?_
 exact row_eq hs (Int.le_refl _) c λx=>by simp only[rD,m,jV,Bool.false_or,zR d]
theorem BO{p:Int→Bool}(g:rW 20 p)(d: -21<a)(i:b≤21):iM (n+5) 10 [bj (row p),.int a,.int b] (bj (row λx=>p x&&(decide (a≤x)&&decide (x<b)))):=by
 have hs:rW 20 λx=>aX x [(a,b)]:=λx h=>by dsimp only at h;rw[cZ,←decide_and_eq,decide_eq_true_eq]at h;dsimp only at h;exact Lh d i h
 have e:=uU (λq c=>by rw[List.mem_singleton]at c;subst c;exact d) hs;have f:=nJ (n:=n+3) (ps:=[(a,b)]) (show 1<64 by decide);simp only[e]at f;have:=yv (n:=n)|>.2 g hs
 simp only[show(λx=>qN (p x) (aX x [(a,b)]))=λx=>p x&&(decide (a≤x)&&decide (x<b))from funext λx=>by simp only[cZ]]at this;exact a6 rfl rfl rfl (aU (a7 (bT (ds:=[_,_]) (es_2 rfl (bT rfl rfl f)) rfl this))) rfl
noncomputable def sW(s:Sp):Int:=s.foldl (λt p=>t+(p.2-p.1)) 0
theorem t8:iM (n+1) 11 [bj s] (.int (sW s)):=by
 obtain⟨⟨ρ',f⟩,e,d,c⟩:=cY (body:=λst=>cu (SM n) (O1.body.get 1).loop st) (enc:=ofPair) (st:=([(4,.d (bj s)),(21,.d (.int 0))],[])) (λt p=>t+(p.2-p.1))
  (λi t st=>(st.1=[(4,.d (bj s)),(21,.d (.int t))]∨∃a b,st.1=[(4,.d (bj s)),(21,.d (.int t)),(1,a),(2,b)])∧st.2=[]) ⟨.inl rfl,rfl⟩ λi t p ⟨ρ,σ⟩ k ⟨d,c⟩=>by
   have g:cD [1,2] (ofPair p) ρ=some [(4,.d (bj s)),(21,.d (.int t)),(1,.d (.int p.1)),(2,.d (.int p.2))]:=by rcases d with h|⟨a,b,h⟩<;>(dsimp only at h;subst h;rfl)
   dsimp only at c;subst c;exact(h9 _ .next _ ⟨g,ai (xw rfl rfl) aM,(λj z=>Fl.nr z),.inr (fu _ _ rfl),rfl⟩)
 dsimp only at c;subst c;exact a6 rfl rfl rfl (ai (bK rfl) (ai (fW (dK rfl rfl) e) (aU (a7 (v:=.d (.int (sW s))) (bY (by clear e;rcases d with h|⟨a,b,h⟩<;>(dsimp only at h;subst h;rfl))))))) rfl
theorem pe:∀{s:Sp} {d:Int},jx d s→(∀q∈s,d<q.1)∧s.Pairwise λp q=>p.2<q.1∧p.1<p.2∧q.1<q.2:=by
 intro s;induction s with
 |nil=>intro d _;exact⟨λc h=>(by cases h),List.Pairwise.nil⟩
 |cons p s j=>
  intro d i;refine bR i λg f l=>?_;refine a9 (j l) λe k=>⟨λq b=>?_,List.pairwise_cons.mpr ⟨λq b=>⟨e q b,f,?_⟩,k⟩⟩
  ·refine Or.elim (List.mem_cons.mp b) (λh=>?_) λh=>?_
   ·exact rl h g
   ·have:=e q h;exact vQ g f this
  ·clear j i g f e;cases s with
   |nil=>cases b
   |cons r s=>
    rcases List.mem_cons.mp b with h|h
    ·exact rl h l.2.1
    ·exact((List.pairwise_cons.mp k).1 q h).2.2
theorem wh(R:jx lo s)(K:s.length<100):iM (n+1) 12 [bj s,.int x] (.bool (aX x s)):=by
 have I:(s.map ofPair).length<4096:=by rw[List.length_map];exact vN K
 have B:∀{k:Nat} {p:Int×Int},s[k]? =some p→hU (bj s) (.int (k:Int))=some (ofPair p):=λ{k p} h=>nA (by refine rl (List.getElem?_map) ?_;refine rl h ?_;rfl) I;have H:=List.pairwise_iff_getElem.mp (pe R).2;have g:∀{i j:Nat} {p q:Int×Int},s[i]? =some p→s[j]? =some q→i≤j→p.2≤q.2:=λ{i j p q} Q v u=>by
  refine aT (List.getElem?_eq_some_iff.mp Q) λM V=>aT (List.getElem?_eq_some_iff.mp v) λL U=>Or.elim (Nat.lt_or_eq_of_le u) (λz=>?_) λz=>?_
  ·have:=H i j M L z;rw[V,U]at this;exact En this
  ·clear H V U;subst z;rw[Q]at v;exact one v (Int.le_refl _)
 let env (i j:Nat) (r:aB):aB:=(4,.d (bj s))::(23,.d (.int x))::(19,.d (.int (i:Int)))::(20,.d (.int (j:Int)))::r;refine ay (qI (test:=λst=>lV (aH (SM n) (.cmp .lt (.var 19) (.var 20)) st.1 st.2))
  (λm st=>∃i j r,st=(env i j r,[])∧(r=[]∨∃w,r=[(22,w)])∧m=j-i∧i≤j∧j≤s.length∧(∀k p,s[k]? =some p→k<i→p.2≤x)∧(∀p,s[j]? =some p→x<p.2))
  (λst=>∃k r,st=(env k k r,[])∧(∀i p,s[i]? =some p→i<k→p.2≤x)∧(∀p,s[k]? =some p→x<p.2)) (λm st O=>MM O λi j r e E P u v T S=>by
   clear O;subst e;have t:(λst:St=>lV (aH (SM n) (.cmp .lt (.var 19) (.var 20)) st.1 st.2)) (env i j r,[])=some (decide ((i:Int)<(j:Int)),[]):=rfl;by_cases d:i<j
   ·replace t:=(decide_eq_true (vY d))▸t;have F:((i+j)/2)<s.length:=by exact Km v d
    have l:s[(i+j)/2]? =some s[(i+j)/2]:=List.getElem?_eq_getElem F;have Y:Int.fdiv ((i:Int)+(j:Int)) 2=(((i+j)/2:Nat):Int):=by exact rl (Int.fdiv_eq_ediv_of_nonneg _ (by decide)) IA
    have s0:fZ (SM n) ((Nk.body.get 1).loop.get 0) (env i j r,[])=some (.next,(env i j [(22,.d (.int (((i+j)/2:Nat):Int)))],[])):=by refine rr Y ?_;rcases E with E|⟨w,E⟩<;>(subst E;exact bK (aQ (aQ rfl rfl rfl rfl rfl) rfl rfl rfl rfl))
    have c:=aW (C:=SM n) (o:=.le) (r:=decide (s[(i+j)/2].2≤x)) (b:=.var 23) (bf (bf (ρ:=env i j [(22,.d (.int (((i+j)/2:Nat):Int)))]) (σ:=[]) (a:=.var 4) (b:=.var 22) rfl rfl rfl rfl (B l)) (b:=.int 1) rfl rfl rfl rfl) rfl rfl rfl rfl;have A:∀i' j':Nat,fZ (SM n) ((Nk.body.get 1).loop.get 1) (env i j [(22,.d (.int (((i+j)/2:Nat):Int)))],[])=some (.next,(env i' j' [(22,.d (.int (((i+j)/2:Nat):Int)))],[]))→cu (SM n) (Nk.body.get 1).loop (env i j r,[])=some (.next,(env i' j' [(22,.d (.int (((i+j)/2:Nat):Int)))],[])):=λi' j' h=>ai s0 (ai h aM);by_cases D:s[(i+j)/2].2≤x
    ·rw[decide_eq_true D]at c;exact .inr (jC (j-((i+j)/2+1)) ([]) .next _ ⟨K8 P d,t,A ((i+j)/2+1) j (c8 c rfl (ai (bK (aQ rfl rfl rfl rfl rfl)) aM)),(λy z=>Fl.nr z),_,_,_,rfl,.inr ⟨_,rfl⟩,rfl,J9 d,v,λk p F d=>Int.le_trans (g F l (JO d)) D,S⟩)
    ·rw[decide_eq_false D]at c;exact .inr (jC ((i+j)/2-i) ([]) .next _ ⟨J1 P d,t,A i ((i+j)/2) (bu c rfl (ai (bK rfl) aM)),(λy z=>Fl.nr z),_,_,_,rfl,.inr ⟨_,rfl⟩,rfl,Fj d,Jy F,T,λp h=>by rw[l]at h;exact one h (mY D)⟩)
   ·rw[decide_eq_false (AE d)]at t;have:i=j:=by exact sf u d
    subst this;exact .inl ⟨_,t,i,r,rfl,T,S⟩) 200 (s.length-0) (env 0 s.length [],[]) (h9 0 s.length ([]) ⟨rfl,.inl rfl,rfl,Nat.zero_le _,Nat.le_refl _,λy y y h=>Eu h,λp h=>by have:=(List.getElem?_eq_some_iff.mp h).1;lia⟩) (J2 K)) λG e N=>?_;obtain⟨ρ',W⟩:=G;refine fP N λk r M L X=>?_
 clear K H g N;cases M;have f:=aW (C:=SM n) (o:=.lt) (a:=.var 19) (ρ:=env k k r) (σ:=[]) rfl (aZ (a:=.var 4) rfl rfl (eT I)) rfl rfl (r:=decide ((k:Int)<((s.map ofPair).length:Int))) rfl;have J:aH (SM n) (.and (.cons (.cmp .lt (.var 19) (.blt .len (.cons (.var 4) .nil))) (.cons (.cmp .le (.sub (.sub (.var 4) (.var 19)) (.int 0)) (.var 23)) .nil))) (env k k r) []=some (.d (.bool (aX x s)),[]):=by
  refine rl (qp R L X) ?_;cases l:s[k]? with
  |none=>rw[decide_eq_false (by rw[List.length_map];have:=List.getElem?_eq_none_iff.mp l;lia)]at f;exact dP (gX f)
  |some p=>have d:=(List.getElem?_eq_some_iff.mp l).1;rw[decide_eq_true (by rw[List.length_map];exact vY d)]at f;exact dP (and_2 f λy=>aW (bf (bf rfl rfl rfl rfl (B l)) rfl rfl rfl rfl) rfl rfl rfl rfl)
 exact a6 rfl rfl rfl (ai (gb (fM rfl (fM (aZ rfl rfl (eT I)) gK)) rfl) (ai (qA (rl (show((s.map ofPair).length:Int)=(s.length:Int) by rw[List.length_map]) e)) (aU (a7 J)))) rfl
noncomputable def shift(d:Int)(s:Sp):Sp:=s.map λp=>(p.1+d,p.2+d)
theorem zm(d:Int):∀{s:Sp} {b:Int},jx b s→jx (b+d) (shift d s):=by
 intro s;induction s with
 |nil=>intro _ _;trivial
 |cons p s e=>intro b c;exact bR c λh g f=>⟨Int.add_lt_add_right h d,Int.add_lt_add_right g d,e f⟩
theorem wV(d x:Int):∀s:Sp,aX x (shift d s)=aX (x-d) s:=by
 intro s;induction s with
 |nil=>rfl
 |cons p s a=>rw[shift,List.map_cons,br,←shift,a,br,show decide (p.1+d≤x)=decide (p.1≤x-d)from decide_eq_decide.mpr (by lia),show decide (x<p.2+d)=decide (x-d<p.2)from decide_eq_decide.mpr (by lia)]
theorem z8(h:rW 10 p)(b: -10≤d)(c:d≤10):shift d (row p)=row λx=>p (x-d):=by
 have a:∀x,aX x (shift d (row p))=p (x-d):=λx=>by rw[wV,kJ h (by decide)]
 refine row_eq (λx e=>?_) (Int.le_refl _) (FQ (zm d (kF p)) λx e=>?_) a
 ·have:=h _ e;exact Jg b c this
 ·rw[a]at e;have:=h _ e;exact Jc b this
theorem wi(c:s.length<100):iM (n+1) 13 [bj s,.int d] (bj (shift d s)):=by refine a6 rfl rfl rfl (aU (a7 (comp_map (λp=>ofPair (p.1+d,p.2+d)) (λb z=>It.oe z) rfl (λa b=>⟨_,rfl,rfl⟩) (vN c)))) ?_;simp only[bj,shift,List.map_map];rfl
noncomputable def HS:List Int:=(List.range 41).map λ(k:Nat)=>(k:Int)-20
theorem sX:y∈HS↔-20≤y∧y≤20:=by
 unfold HS;rw[List.mem_map];constructor
 ·intro a;refine ay a λk b e=>?_;have:=List.mem_range.mp b;exact K9 e this
 ·intro h;exact⟨(y+20).toNat,List.mem_range.mpr (Lu h),Ef h⟩
theorem Dr:HS.Pairwise (λx y=>x<y):=by decide
theorem cS{l:List Int}(h:l.Pairwise (λx y=>x<y)):l.Nodup:=h.imp λh=>Int.ne_of_lt h
theorem tC{m:List Int}(b:l.Pairwise (λx y=>x<y))(a:m.Pairwise (λx y=>x<y))(h:∀x,x∈l↔x∈m):l=m:=
 (ji ((List.perm_ext_iff_of_nodup (cS b) (cS a)).mpr h) (b.imp Int.le_of_lt)).trans (ji (List.Perm.refl _) (a.imp Int.le_of_lt)).symm
theorem lB(h:l.Nodup):(cy fg l).Pairwise (λx y=>x<y):=by have s:=gJ (le:=fg) (λa b=>by simp only[fg,decide_eq_true_eq];exact Bc) (λa b c=>by simp only[fg,decide_eq_true_eq];exact A1) l;have n:(cy fg l).Nodup:=(cE l).nodup_iff.mpr h;exact s.imp₂ (λa b d e=>by rw[fg,decide_eq_true_eq]at d;exact EH d e) n
noncomputable abbrev kd(f:Int→D)(ks:List Int):List (Int×D):=ks.map λy=>(y,f y)
theorem eH:∀{ks:List Int},y∈ks→(kd f ks).lookup y=some (f y):=by
 intro ks;induction ks with
 |nil=>intro h;cases h
 |cons k ks a=>
  intro h;rw[kd,List.map_cons,List.lookup_cons];by_cases e:y=k
  ·subst e;rw[show(y==y)=true from beq_self_eq_true y]
  ·exact rl (beq_eq_false_iff_ne.mpr e) (a ((List.mem_cons.mp h).resolve_left e))
theorem qb:∀{ks:List Int},y∉ks→(kd f ks).lookup y=none:=by
 intro ks;induction ks with
 |nil=>intro _;rfl
 |cons k ks a=>intro h;simp only[List.map_cons,List.lookup_cons,show(y==k)=false from beq_eq_false_iff_ne.mpr λe=>h (e▸.head _)];exact a λm=>h (.tail _ m)
noncomputable def gg(ks:List Int)(y:Int):List Int:=match ks.elem y with
 |true=>ks
 |false=>ks++[y]
theorem sR:∀{ks:List Int},fm (kd f ks) y (f y)=kd f (gg ks y):=by
 have b:∀{ks:List Int},y∉ks→fm (kd f ks) y (f y)=kd f (ks++[y]):=by
  intro ks;induction ks with
  |nil=>intro _;rfl
  |cons k ks c=>intro h;rw[kd,List.map_cons,fm];refine rl (decide_eq_false (show¬k=y fromλe=>h (e▸.head _))) ?_;dsimp only;rw[←kd,c λm=>h (.tail _ m)];rfl
 have a:∀{ks:List Int},y∈ks→fm (kd f ks) y (f y)=kd f ks:=by
  intro ks;induction ks with
  |nil=>intro h;cases h
  |cons k ks c=>
   intro h;rw[kd,List.map_cons,fm];by_cases e:k=y
   ·rw[decide_eq_true (show(k,f k).1=y from e),e]
   ·refine rl (decide_eq_false (show¬(k,f k).1=y from e)) ?_;dsimp only;rw[←kd,c ((List.mem_cons.mp h).resolve_left λz=>e z.symm)]
 intro ks;unfold gg;cases h:ks.elem y with
 |true=>exact a (List.elem_iff.mp h)
 |false=>exact b λm=>by rw[List.elem_iff.mpr m]at h;exact tf h
theorem Ay:x∈gg ks y↔x∈ks∨x=y:=by
 unfold gg;cases h:ks.elem y with
 |true=>exact⟨.inl,λz=>z.elim id λe=>rl e (List.elem_iff.mp h)⟩
 |false=>rw[List.mem_append,List.mem_singleton]
theorem vJ(h:ks.Nodup):(gg ks y).Nodup:=by
 unfold gg;cases e:ks.elem y with
 |true=>exact h
 |false=>refine List.nodup_append.mpr ⟨h,List.pairwise_singleton _ _,λa d b c z=>?_⟩;rw[List.mem_singleton]at c;rw[z,c]at d;rw[List.elem_iff.mpr d]at e;exact tf e
theorem oR:(gg ks y).length≤ks.length+1:=by
 unfold gg;cases ks.elem y with
 |true=>exact Nat.le_succ _
 |false=>exact rl List.length_append (Nat.le_refl _)
theorem kC:(kd f ks).map (λp=>D.int p.1)=ks.map D.int:=by rw[kd,List.map_map];rfl
noncomputable def hs(g:Int→Sp):List Int:=HS.filter λy=>!decide (g y=[])
theorem dH{g:Int→Sp}(h:∀y,g y≠[]→-20≤y∧y≤20){y:Int}:y∈hs g↔g y≠[]:=by rw[hs,List.mem_filter,sX,Bool.not_eq_true',decide_eq_false_iff_not];exact⟨λh=>h.2,λz=>⟨h y z,z⟩⟩
theorem jl(g:Int→Sp):(hs g).Pairwise (λx y=>x<y):=Dr.sublist List.filter_sublist
theorem iE(g:Int→Sp):(hs g).length≤41:=Nat.le_trans (List.length_filter_le _ _) (by decide)
noncomputable abbrev rowsOf(g:Int→Sp):List (Int×D):=kd (λy=>bj (g y)) (hs g)
noncomputable abbrev jz(g:Int→Sp):D:=.inst 1 [(25,.dct (rowsOf g))]
structure Rg(g:Int→Sp):Prop where
 FP:∀y,jx (-21) (g y)
 len:∀y,(g y).length<45
 nB:∀y,g y≠[]→-20≤y∧y≤20
theorem uv{α b:Type}(t:α→Bool)(f:b→α→b):∀(l:List α) (s:b),l.foldl (λs a=>match t a with |true=>f s a|false=>s) s=(l.filter t).foldl f s:=by
 intro l;induction l with
 |nil=>intro s;rfl
 |cons a l c=>
  intro s;rw[List.foldl_cons,c];cases h:t a with
  |true=>refine rl (List.filter_cons_of_pos h) ?_;rfl
  |false=>rw[List.filter_cons_of_neg (by exact rl h Bool.false_ne_true)]
theorem kB:∀(l ks:List Int),(∀x∈l,x∉ks)→l.Nodup→l.foldl gg ks=ks++l:=by
 intro l;induction l with
 |nil=>intro ks _ _;rw[List.append_nil];rfl
 |cons a l d=>
  intro ks h b;rw[List.nodup_cons]at b;have e:gg ks a=ks++[a]:=by
   unfold gg;cases e:ks.elem a with
   |true=>exact absurd (List.elem_iff.mp e) (h a (.head _))
   |false=>rfl
  rw[List.foldl_cons,e,d _ (λx c m=>?_) b.2,List.append_assoc];rfl
  refine Or.elim (List.mem_append.mp m) (λm=>?_) λm=>?_
  ·exact h x (.tail _ c) m
  ·rw[List.mem_singleton]at m;exact b.1 (m▸c)
theorem e8(G:Rg g)(q:ks.Nodup)(w:∀y,g y≠[]→y∈ks)(l:ks.length<64):(SM (n+1)).new 1 [.d (.dct (kd (λy=>bj (g y)) ks))]=some (.c (.inst 1 [(25,.d (.dct (rowsOf g)))])):=by
 refine rl (yD rfl rfl) ?_;have j:=cE (le:=fg) ks;have A:aH (SM n) (.blt .sorted (.cons (.comp [] (.blt .int (.cons (.var 26) .nil)) (.cons [26] (.of (.var 25)) .nil .nil)) .nil)) [(11,.loc 0),(25,.d (.dct (kd (λy=>bj (g y)) ks)))] [.inst 1 [(25,.loc 1)],.dct []]=some (.d (bE (cy fg ks)),[.inst 1 [(25,.loc 1)],.dct []]):=
  aZ (comp_map D.int (λd z=>It.oe z) (dK rfl (congrArg some kC)) (λa d=>⟨[(26,.d (.int a))],rfl,rfl⟩) (i8 l)) rfl (sorted_ints (iY l))
 obtain⟨⟨ρ',u⟩,e,-,-,f⟩:=cY (body:=λst=>cu (SM n) (Oa.body.get 1).loop st) (s:=([]:List Int)) (st:=([(11,.loc 0),(25,.d (.dct (kd (λy=>bj (g y)) ks)))],[.inst 1 [(25,.loc 1)],.dct []]))
  (λm y=>match !decide (g y=[])with |true=>gg m y|false=>m)
  (λi m st=>m.length≤i∧(st.1=[(11,.loc 0),(25,.d (.dct (kd (λy=>bj (g y)) ks)))]∨∃a,st.1=[(11,.loc 0),(25,.d (.dct (kd (λy=>bj (g y)) ks))),(26,a)])∧st.2=[.inst 1 [(25,.loc 1)],.dct (kd (λy=>bj (g y)) m)])
  ⟨Nat.le_refl _,.inl rfl,rfl⟩ λi m y ⟨ρ,σ⟩ o ⟨k,t,f⟩=>by
   obtain⟨o,C⟩:=List.getElem?_eq_some_iff.mp o;have v:=j.mem_iff.mp (C▸List.getElem_mem _);have:=j.length_eq;have r:cD [26] (.int y) ρ=some [(11,.loc 0),(25,.d (.dct (kd (λy=>bj (g y)) ks))),(26,.d (.int y))]:=by rcases t with h|⟨a,h⟩<;>(dsimp only at h;subst h;rfl)
   dsimp only at f;clear t;subst f;have p:aH (SM n) (.sub (.var 25) (.var 26)) [(11,.loc 0),(25,.d (.dct (kd (λy=>bj (g y)) ks))),(26,.d (.int y))] [.inst 1 [(25,.loc 1)],.dct (kd (λy=>bj (g y)) m)]=some (.d (bj (g y)),[.inst 1 [(25,.loc 1)],.dct (kd (λy=>bj (g y)) m)]):=bf rfl rfl rfl rfl (eH v);have c:=aW (b:=.lst .nil) p rfl rfl rfl (ne_nil (g y));cases h:decide (g y=[])with
   |true=>rw[h]at c;exact(h9 _ .next _ ⟨r,ai (bu c rfl aM) aM,(λd z=>Fl.nr z),Nat.le_succ_of_le k,.inr ⟨_,rfl⟩,rfl⟩)
   |false=>rw[h]at c;refine(h9 _ .next _ ⟨r,ai (c8 c rfl (ai (st':=([(11,.loc 0),(25,.d (.dct (kd (λy=>bj (g y)) ks))),(26,.d (.int y))],[.inst 1 [(25,.loc 1)],.dct (kd (λy=>bj (g y)) (gg m y))])) ?_ aM)) aM,(λd z=>Fl.nr z),Nat.le_trans oR (r9 k),.inr ⟨_,rfl⟩,rfl⟩);exact aF (qT (aZ (x:=bj (g y)) p rfl (bI (fits_of (by rw[List.length_map];have:=G.len y;exact AP this)) rfl))) (aF (yp rfl) (aF (jZ rfl) (aR rfl (aR (bI (fits_of (by rw[List.length_map];exact EJ l k o this)) rfl) (by refine rl (sR) ?_;rfl)))))
 dsimp only at f;subst f;have B:(cy fg ks).foldl (λm y=>match !decide (g y=[])with |true=>gg m y|false=>m) []=hs g:=by rw[uv (λy=>!decide (g y=[])) gg,kB _ _ (λd d h=>by cases h) ((cS (lB q)).sublist List.filter_sublist),List.nil_append];refine tC ((lB q).sublist List.filter_sublist) (jl g) λx=>?_;rw[dH G.nB,List.mem_filter,j.mem_iff,Bool.not_eq_true',decide_eq_false_iff_not];exact⟨λh=>h.2,λh=>⟨w x h,h⟩⟩
 rw[B]at e;have:=Dt (fd:=Oa) (as:=[.c (.inst 1 []),.d (.dct (kd (λy=>bj (g y)) ks))]) rfl (ai rfl (ai (fW (dK A rfl) e) aM)) (cs:=[.inst 1 [(25,.d (.dct (rowsOf g)))]]) rfl;exact aF this rfl
section
variable{n g m c:Nat}{ρ:aB}{σ σ1:ak}{a k:T}{x:D}{l:Ts}{ds:List D}{fs:List (Nat×D)}
theorem q7(e:(SM n).cg g=ds.map λo=>false)(f:iM n g ds x):∃r,iB (SM n) g σ (ds.map V.d)=some (r,σ)∧r.data=some x:=ay f λr j i=>⟨r,eR (e▸rq) j rfl,i⟩
theorem bZ(h:aH (SM n) a ρ σ=some (.d (.inst c fs),σ))(i:(SM n).di c m=some g)(f:(fs.lookup m).isNone=true)(e:bH (SM n) l ρ σ=some (ds.map V.d,σ1))(b:(SM n).cg g=false::ds.map λp=>false)(d:iM n g (.inst c fs::ds) x):aH (SM n) (.di m a l) ρ σ=some (.d x,σ1):=ay (q7 b d) λr o j=>sO h rfl i f e o j
end
theorem lY(h:l.length<4096):cC .list [.lst l]=some (.lst l):=by show(match fits l.length with |true=>_|false=>_)=_;rw[fits_of h]
theorem o5(h:ks.length<4096):cC .list [.dct (kd f ks)]=some (bE ks):=by show(match fits (kd f ks).length with |true=>_|false=>_)=_;rw[fits_of (by rw[List.length_map];exact h),kC]
section
variable{n:Nat}{g h:Int→Sp}(G:Rg g)
include G
theorem yx(y:Int):((rowsOf g).lookup y).getD (.lst [])=bj (g y):=by
 by_cases e:g y=[]
 ·refine rl (qb λm=>(dH G.nB).mp m e) (rl e ?_);rfl
 ·refine rl (eH ((dH G.nB).mpr e)) ?_;rfl
theorem ly(y:Int):iM (n+1) 15 [jz g,.int y] (bj (g y)):=by have:=G.len y;refine a6 rfl rfl rfl (aU (a7 (aZ (Ca (x:=.lst []) rfl rfl rfl rfl rfl) rfl ?_))) rfl;rw[yx G];exact lY (by rw[List.length_map];exact AP this)
theorem gF:iM (n+1) 16 [jz g] (bE (hs g)):=
 a6 rfl rfl rfl (aU (a7 (aZ rfl rfl (o5 (xT (iE g)))))) rfl
theorem gY:iM (n+1) 17 [jz g] (.bool (decide (hs g=[]))):=by refine a6 rfl rfl rfl (aU (a7 (aW rfl rfl rfl rfl ?_))) rfl;show gx .eq (.dct (kd _ (hs g))) (.dct [])=_;generalize hs g=l;cases l<;>rfl
theorem zb(x y:Int):iM (n+2) 18 [jz g,.int x,.int y] (.bool (aX x (g y))):=by refine a6 (σ:=[]) rfl rfl rfl (aU (a7 (bT (es_2 ?_ rfl) rfl (wh (G.FP y) (r6 (G.len y)))))) rfl;rw[←yx G];exact Ca rfl rfl rfl rfl rfl
theorem m5(H:Rg h):∃b,iM (n+1) 21 [jz g,jz h] (.bool b)∧(b=true↔∀y,g y=h y):=by
 have u:∀(f:Int→Sp) (ks:List Int),b7 8 ((kd (λy=>bj (f y)) ks).map (λx=>x.2))=true:=λf ks=>by
  induction ks with
  |nil=>rfl
  |cons k ks B=>rw[kd,List.map_cons,List.map_cons,b7,←kd,B,iu,lA];rfl
 refine⟨_,a6 rfl rfl rfl (aU (a7 (aW rfl rfl rfl rfl (r:=decide ((rowsOf g).length=(rowsOf h).length)&&(rowsOf g).all λp=>match(rowsOf h).lookup p.1 with |some x=>PyData.eqv p.2.py x.py|none=>false) ?_))) rfl,?_⟩
 ·show(match decide ((rowsOf g).length=(rowsOf h).length)with |true=>_|false=>_)=_;cases decide ((rowsOf g).length=(rowsOf h).length)with
  |false=>rfl
  |true=>rw[u,u];rfl
 ·rw[Bool.and_eq_true,decide_eq_true_eq,List.length_map,List.length_map,List.all_eq_true];have w:∀s t:Sp,PyData.eqv (bj s).py (bj t).py=decide (s=t):=λs t=>by simp only[D.py,PyData.eqv,rg]
  constructor
  ·intro A y;refine a9 A λE C=>?_;have i:∀y∈hs g,y∈hs h∧g y=h y:=λy q=>by
    have z:=C (y,bj (g y)) (List.mem_map.mpr ⟨y,q,rfl⟩);dsimp only at z;refine(Classical.em (y∈hs h)).elim (λm=>?_) λm=>?_
    ·rw[eH m]at z;dsimp only at z;rw[w]at z;exact⟨m,of_decide_eq_true z⟩
    ·rw[qb m]at z;exact ft z
   by_cases e:g y=[]
   ·by_cases m:h y=[]
    ·rw[e,m]
    ·have o:(hs h).filter (λy=>!decide (g y=[]))=hs g:=by refine tC ((jl h).sublist List.filter_sublist) (jl g) λx=>?_;rw[List.mem_filter,Bool.not_eq_true',decide_eq_false_iff_not];exact⟨λz=>(dH G.nB).mpr z.2,λz=>⟨(i x z).1,(dH G.nB).mp z⟩⟩
     have:=List.length_filter_eq_length_iff.mp (rl o E) y ((dH H.nB).mpr m);rw[e]at this;exact ft this
   ·exact(i y ((dH G.nB).mpr e)).2
  ·intro e;have:g=h:=funext e;clear G H u e;subst this;refine⟨rfl,λp v=>?_⟩;refine ay (List.mem_map.mp v) λy q j=>?_;clear v;subst j;refine rl (eH q) ?_;dsimp only;rw[w,decide_eq_true rfl]
end
noncomputable def dN(a b:Int):List Int:=(List.range (b-a).toNat).map λk:Nat=>a+(k:Int)
theorem cN:x∈dN a b↔a≤x∧x<b:=by
 unfold dN;rw[List.mem_map];constructor
 ·intro d;refine ay d λk f e=>?_;have:=List.mem_range.mp f;exact Iu e this
 ·intro h;exact⟨(x-a).toNat,List.mem_range.mpr (EN h),by rw[Int.toNat_of_nonneg (Int.sub_nonneg_of_le h.1),Int.add_comm,Int.sub_add_cancel]⟩
theorem gT(a b:Int):(dN a b).Pairwise (λx y=>x<y):=by refine List.pairwise_map.mpr (List.pairwise_lt_range.imp λh=>I8 h)
theorem fk(a b:Int):upto a b=(dN a b).map D.int:=by simp only[dN,List.map_map];rfl
theorem CN(h:a≤b):((dN a b).length:Int)=b-a:=by simp only[dN,List.length_map,List.length_range];exact JA h
noncomputable def cells(s:Sp):List Int:=s.flatMap λp=>dN p.1 p.2
theorem ng{s:Sp}:x∈cells s↔aX x s=true:=by
 rw[cells,List.mem_flatMap,aX,List.any_eq_true];constructor
 ·intro i;exact ay i λp j h=>⟨p,j,by rw[←decide_and_eq];exact decide_eq_true (cN.mp h)⟩
 ·intro i;refine ay i λp j h=>?_;rw[←decide_and_eq]at h;exact⟨p,j,cN.mpr (of_decide_eq_true h)⟩
theorem qm(h:jx lo s):(cells s).Pairwise (λx y=>x<y):=by refine List.pairwise_flatMap.mpr ⟨λp f=>gT _ _,(pe h).2.imp λ{p q} b x e y d=>?_⟩;exact Int.lt_trans (cN.mp e).2 (Int.lt_of_lt_of_le b.1 (cN.mp d).1)
theorem ry(h:jx b s):sW s=((cells s).length:Int):=by
 have d:∀(s:Sp) (b t:Int),jx b s→s.foldl (λt p=>t+(p.2-p.1)) t=t+((cells s).length:Int):=by
  intro s;induction s with
  |nil=>intro b t _;exact(Int.add_zero t).symm
  |cons p s f=>intro b t e;refine bR e λo j i=>?_;refine rl List.foldl_cons (rl (f p.2 _ i) ?_);refine rl (show cells (p::s)=dN p.1 p.2++cells s from rfl) (rl List.length_append ?_);have:=CN (Int.le_of_lt j);exact IJ this
 have:=d s b 0 h;rwa[Int.zero_add]at this
theorem y9(G:Rg g)(u:∀y x,aX x (g y)=true→-20≤x∧x≤20):iM (n+2) 19 [jz g] (.int (((hs g).map λy=>sW (g y)).sum)):=by
 have r:aH (SM (n+1)) (.comp [11] (.call 11 (.cons (.sub (.attr (.var 11) 25) (.var 26)) .nil)) (.cons [26] (.of (.attr (.var 11) 25)) .nil .nil)) [(11,.d (jz g))] []=some (.d (bE ((hs g).map λy=>sW (g y))),[]):=by have:=comp_map (C:=SM (n+1)) (ρ:=[(11,.d (jz g))]) (σ:=[]) (ck:=[11]) (e:=.call 11 (.cons (.sub (.attr (.var 11) 25) (.var 26)) .nil)) (xs:=[26]) (it:=.of (.attr (.var 11) 25)) (λy=>D.int (sW (g y))) (λp z=>It.oe z) (dK rfl (congrArg some kC)) (λy t=>⟨[(11,.d (jz g)),(26,.d (.int y))],rfl,bT (ds:=[bj (g y)]) (es_1 (bf rfl rfl rfl rfl (eH t))) rfl t8⟩) (xT (iE g));replace this:=(show(hs g).map (λy=>D.int (sW (g y)))=((hs g).map λy=>sW (g y)).map D.int by refine rl List.map_map ?_;rfl)▸this;exact this
 refine a6 rfl rfl rfl (aU (a7 (aZ r rfl ?_))) rfl;refine aR (oW _) (bI (List.all_eq_true.mpr λv q=>?_) rfl);refine ay (List.mem_map.mp q) λy p j=>?_;clear r q p;subst j;have:(cells (g y)).length≤HS.length:=(cS (qm (G.FP y))).length_le_of_subset λx w=>sX.mpr (u y x (ng.mp w));rw[show HS.length=41 from rfl]at this;exact rl (ry (G.FP y)) (decide_eq_true (Js this))
theorem foldl_min:∀(l:List Int) (n:Int),l.foldl min n∈n::l∧∀x∈n::l,l.foldl min n≤x:=by
 intro l;induction l with
 |nil=>intro n;exact⟨.head _,λx h=>by rw[List.mem_singleton]at h;exact rl h (Int.le_refl _)⟩
 |cons a l e=>
  refineλn=>a9 (e (min n a)) λf d=>rl List.foldl_cons ?_;have c:=d _ (.head _);refine⟨?_,λx h=>?_⟩
  ·refine Or.elim (List.mem_cons.mp f) (λh=>?_) λh=>?_
   ·refine rl h ?_;refine Or.elim (by exact Ln:min n a=n∨min n a=a) (λz=>?_) λz=>?_<;>refine rl z ?_
    ·exact .head _
    ·exact .tail _ (.head _)
   ·exact .tail _ (.tail _ h)
  ·refine Or.elim (List.mem_cons.mp h) (λh=>?_) λh=>?_
   ·exact rl h (Bk c)
   ·refine Or.elim (List.mem_cons.mp h) (λh=>?_) λh=>?_
    ·exact rl h (Bd c)
    ·exact d x (.tail _ h)
theorem foldl_max:∀(l:List Int) (n:Int),l.foldl max n∈n::l∧∀x∈n::l,x≤l.foldl max n:=by
 intro l;induction l with
 |nil=>intro n;exact⟨.head _,λx h=>by rw[List.mem_singleton]at h;exact rl h (Int.le_refl _)⟩
 |cons a l e=>
  refineλn=>a9 (e (max n a)) λf d=>rl List.foldl_cons ?_;have c:=d _ (.head _);refine⟨?_,λx h=>?_⟩
  ·refine Or.elim (List.mem_cons.mp f) (λh=>?_) λh=>?_
   ·refine rl h ?_;refine Or.elim (by exact Bt:max n a=n∨max n a=a) (λz=>?_) λz=>?_<;>refine rl z ?_
    ·exact .head _
    ·exact .tail _ (.head _)
   ·exact .tail _ (.tail _ h)
  ·refine Or.elim (List.mem_cons.mp h) (λh=>?_) λh=>?_
   ·exact rl h (Bp c)
   ·refine Or.elim (List.mem_cons.mp h) (λh=>?_) λh=>?_
    ·exact rl h (Bv c)
    ·exact d x (.tail _ h)
theorem n5(h:l≠[]):∃m,cC .min [bE l]=some (.int m)∧m∈l∧∀x∈l,m≤x:=by
 cases l with
 |nil=>exact absurd rfl h
 |cons a l=>refine⟨_,?_,foldl_min l a⟩;exact aR (oW _) rfl
theorem nZ(h:l≠[]):∃m,cC .max [bE l]=some (.int m)∧m∈l∧∀x∈l,x≤m:=by
 cases l with
 |nil=>exact absurd rfl h
 |cons a l=>refine⟨_,?_,foldl_max l a⟩;exact aR (oW _) rfl
theorem Gy:∀{s:Sp} {a x:Int},jx a s→a≤endOf a s∧(aX x s=true→x<endOf a s):=by
 intro s;induction s with
 |nil=>intro a x _;exact⟨Int.le_refl _,λh=>by cases h⟩
 |cons p s d=>
  intro a x c;refine bR c λi g f=>?_;obtain⟨b,e⟩:=d f;refine⟨Int.le_trans (Int.le_of_lt (Int.lt_trans i g)) b,λh=>?_⟩;rw[br,Bool.or_eq_true,Bool.and_eq_true,decide_eq_true_eq,decide_eq_true_eq]at h;refine Or.elim h (λh=>?_) λh=>?_
  ·exact Int.lt_of_lt_of_le h.2 b
  ·exact e h
theorem qE{x:D}:hU (.lst (x::l)) (.int 0)=some x:=
 (show tF (x::l) (.int 0)=gd (fits 0) (b1 (idx ((0:Nat):Int) (x::l).length) λk=>(x::l)[k]?)from rfl).trans (bI rfl (aR (oh (Nat.succ_pos _)) rfl))
theorem za(h:hs g=[])(G:Rg g):iM (n+2) 20 [jz g] .none:=by have e:=bZ (n:=n+1) (m:=27) (g:=17) (a:=.var 11) (ρ:=[(11,.d (jz g))]) (σ:=[]) (l:=.nil) rfl rfl rfl rfl rfl (gY G);exact a6 rfl rfl rfl (aU (c8 e (decide_eq_true h) (aU (a7 rfl)))) rfl
theorem BN{g:Int→Sp}(h:hs g≠[])(G:Rg g):∃m1 m2 t0 t1,iM (n+2) 20 [jz g] (.tup [.int m1,.int t0,.int (m2-m1),.int (t1+1-t0)])∧(∃y,aX m1 (g y)=true)∧(∀x y,aX x (g y)=true→m1≤x)∧(∃y,aX (m2-1) (g y)=true)∧(∀x y,aX x (g y)=true→x<m2)∧hU (bE (hs g)) (.int 0)=some (.int t0)∧hU (bE (hs g)) (.int (-1))=some (.int t1):=by
 have e:=bZ (n:=n+1) (m:=27) (g:=17) (a:=.var 11) (ρ:=[(11,.d (jz g))]) (σ:=[]) (l:=.nil) rfl rfl rfl rfl rfl (gY G);let first (y:Int):Int:=((g y).headD (0,0)).1
 let last (y:Int):Int:=((g y).getLastD (0,0)).2;have q:∀y∈hs g,g y≠[]:=λy i=>(dH G.nB).mp i;have H:∀y∈hs g,aX (first y) (g y)=true∧∀x,aX x (g y)=true→first y≤x:=λy i=>by
  have c:=G.FP y;have:=q y i;show aX ((g y).headD (0,0)).1 (g y)=true∧∀x,aX x (g y)=true→((g y).headD (0,0)).1≤x;cases e:g y with
  |nil=>exact absurd e this
  |cons p r=>replace c:=e▸c;refine⟨by rw[br];show(decide (p.1≤p.1)&&decide (p.1<p.2)||_)=true;refine rl (decide_eq_true (Int.le_refl _)) (rl (decide_eq_true c.2.1) ?_);rfl,λx k=>?_⟩;have:=wk (s:=p::r) ⟨mV,c.2⟩ k;exact Ex this
 have F:∀y∈hs g,(∃L p,g y=L++[p]∧last y=p.2)∧aX (last y-1) (g y)=true∧∀x,aX x (g y)=true→x<last y:=λy i=>by
  have c:=G.FP y;cases e:(g y).getLast? with
  |none=>exact absurd (by simpa using e) (q y i)
  |some p=>
   have A:=dQ e;have Q:last y=p.2:=by show((g y).getLastD (0,0)).2=p.2;refine rl (List.getLastD_eq_getLast?) (rl e ?_);rfl
   replace c:=A▸c;have v:=(gh.mp c).2;have E:=λx=>Gy (x:=x) c;replace E:=jN▸E;refine rl Q ?_;refine⟨(fu _ p ⟨A,rfl⟩),?_,λx k=>?_⟩
   ·rw[A,dh,cZ,decide_eq_true (EM v),decide_eq_true mV];simp
   ·rw[A]at k;exact(E x).2 k
 have I:aH (SM (n+1)) (.comp [11] (.sub (.sub (.sub (.attr (.var 11) 25) (.var 26)) (.int 0)) (.int 0)) (.cons [26] (.of (.attr (.var 11) 25)) .nil .nil)) [(11,.d (jz g))] []=some (.d (bE ((hs g).map first)),[]):=by
  have:=comp_map (C:=SM (n+1)) (ρ:=[(11,.d (jz g))]) (σ:=[]) (ck:=[11]) (e:=.sub (.sub (.sub (.attr (.var 11) 25) (.var 26)) (.int 0)) (.int 0)) (xs:=[26]) (it:=.of (.attr (.var 11) 25)) (λy=>D.int (first y)) (λK z=>It.oe z) (dK rfl (congrArg some kC)) (λy i=>⟨[(11,.d (jz g)),(26,.d (.int y))],rfl,by
   refine bf (x:=ofPair ((g y).headD (0,0))) (bf (bf rfl rfl rfl rfl (eH i)) rfl rfl rfl ?_) rfl rfl rfl rfl;cases e:g y with
   |nil=>exact absurd e (q y i)
   |cons p r=>exact qE⟩) (by have:=iE g;lia)
  rwa[show(hs g).map (λy=>D.int (first y))=((hs g).map first).map D.int by refine rl List.map_map ?_;rfl]at this
 have v:aH (SM (n+1)) (.comp [11] (.sub (.sub (.sub (.attr (.var 11) 25) (.var 26)) (.int (-1))) (.int 1)) (.cons [26] (.of (.attr (.var 11) 25)) .nil .nil)) [(11,.d (jz g))] []=some (.d (bE ((hs g).map last)),[]):=by
  have:=comp_map (C:=SM (n+1)) (ρ:=[(11,.d (jz g))]) (σ:=[]) (ck:=[11]) (e:=.sub (.sub (.sub (.attr (.var 11) 25) (.var 26)) (.int (-1))) (.int 1)) (xs:=[26]) (it:=.of (.attr (.var 11) 25)) (λy=>D.int (last y)) (λK z=>It.oe z) (dK rfl (congrArg some kC)) (λy i=>⟨[(11,.d (jz g)),(26,.d (.int y))],rfl,by
   refine a9 (F y i) λB K=>cJ B λL p u t=>bf (x:=ofPair p) (bf (bf rfl rfl rfl rfl (eH i)) rfl rfl rfl ?_) rfl rfl rfl (by refine rl t ?_;rfl);simp only[u,bj,List.map_append];exact qF⟩) (by have:=iE g;lia)
  rwa[show(hs g).map (λy=>D.int (last y))=((hs g).map last).map D.int by refine rl List.map_map ?_;rfl]at this
 refine bG (n5 (l:=(hs g).map first) (by simpa using h)) λm1 u J O=>bG (nZ (l:=(hs g).map last) (by simpa using h)) λm2 t N S=>?_;obtain⟨t0,s0⟩:∃t0,hU (bE (hs g)) (.int 0)=some (.int t0):=by
  cases e:hs g with
  |nil=>exact absurd e h
  |cons a l=>exact⟨a,qE⟩
 obtain⟨t1,w⟩:∃t1,hU (bE (hs g)) (.int (-1))=some (.int t1):=by
  cases e:(hs g).getLast? with
  |none=>exact absurd (by simpa using e) h
  |some a=>exact⟨a,by rw[dQ e,bE,List.map_append];exact qF⟩
 refine(jC m1 m2 t0 t1 ⟨?_,?_,λx y k=>?_,?_,λx y k=>?_,s0,w⟩)
 ·have R:=bZ (n:=n+1) (m:=31) (g:=16) (a:=.var 11) (ρ:=[(11,.d (jz g)),(28,.d (.int m1)),(29,.d (.int m2))]) (σ:=[]) (l:=.nil) rfl rfl rfl rfl rfl (gF G);have M:=bf (C:=SM (n+1)) (a:=.var 30) (b:=.int 0) (ρ:=[(11,.d (jz g)),(28,.d (.int m1)),(29,.d (.int m2)),(30,.d (bE (hs g)))]) (σ:=[]) rfl rfl rfl rfl s0;have P:=bf (C:=SM (n+1)) (a:=.var 30) (b:=.int (-1)) (ρ:=[(11,.d (jz g)),(28,.d (.int m1)),(29,.d (.int m2)),(30,.d (bE (hs g)))]) (σ:=[]) rfl rfl rfl rfl w;exact a6 (σ:=[]) rfl rfl rfl (ai (bu e (decide_eq_false h) aM) (ai (bK (aZ I rfl u)) (ai (bK (aZ v rfl t)) (ai (bK R) (aU (a7 (gw (gG rfl (gG M (gG (aQ rfl rfl rfl rfl rfl) (es_1 (aQ (aQ P rfl rfl rfl rfl) M rfl rfl rfl))))) rfl rfl))))))) rfl
 ·refine ay (List.mem_map.mp J) λy i o=>?_;clear h e q I v u J t s0 w;subst o;exact⟨y,(H y i).1⟩
 ·have i:=(dH G.nB).mpr λz=>by rw[z]at k;cases k
  exact Int.le_trans (O _ (List.mem_map.mpr ⟨y,i,rfl⟩)) ((H y i).2 x k)
 ·refine ay (List.mem_map.mp N) λy i o=>?_;clear h e q H I v u J O t N s0 w;subst o;exact⟨y,(F y i).2.1⟩
 ·have i:=(dH G.nB).mpr λz=>by rw[z]at k;cases k
  exact Int.lt_of_lt_of_le ((F y i).2.2 x k) (S _ (List.mem_map.mpr ⟨y,i,rfl⟩))
theorem wL{α b:Type}(f:α→b):∀l:List α,(l.flatMap λa=>[f a])=l.map f:=by
 intro l;induction l with
 |nil=>rfl
 |cons a l c=>refine rl List.flatMap_cons (rl c ?_);rfl
theorem FT:∀{s:Sp} {a:Int} {p:Int×Int},jx a s→p∈s→p.1<p.2:=by
 intro s;induction s with
 |nil=>intro _ _ _ h;cases h
 |cons q s c=>
  intro a p b h;refine bR b λf e d=>?_;refine Or.elim (List.mem_cons.mp h) (λh=>?_) λh=>?_
  ·exact rl h e
  ·exact c d h
noncomputable def tell(g:Int→Sp):Sp:=(hs g).flatMap λy=>(cells (g y)).map λa=>(a,y)
noncomputable abbrev HE(p:Int×Int):Int×Int:=(p.2,p.1)
structure yU(g:Int→Sp)(ds:Sp):Prop where
 nd:ds.Nodup
 mem:∀x y,(x,y)∈ds↔aX x (g y)=true
 len:ds.length<64
 Oh:∀x y,aX x (g y)=true→-20≤x∧x≤20
 Pj:∀x y,aX x (g y)=true→-8≤y∧y≤8
theorem CU{g:Int→Sp}(G:Rg g){y:Int}:(x,y)∈tell g↔aX x (g y)=true:=by
 rw[tell,List.mem_flatMap];constructor
 ·intro i;refine ay i λb k h=>?_;refine ay (List.mem_map.mp h) λa l e=>?_;clear i k;cases e;exact ng.mp l
 ·exactλh=>⟨y,(dH G.nB).mpr (λz=>by rw[z]at h;exact ft h),List.mem_map.mpr ⟨x,ng.mpr h,rfl⟩⟩
theorem rE(G:Rg g):(tell g).Pairwise λp q=>p.2<q.2∨(p.2=q.2∧p.1<q.1):=by refine List.pairwise_flatMap.mpr ⟨λy d=>List.pairwise_map.mpr ((qm (G.FP y)).imp λh=>.inr ⟨rfl,h⟩),(jl g).imp λ{a b} h p f q e=>?_⟩;refine ay (List.mem_map.mp f) λd d c=>?_;clear G f;subst c;refine ay (List.mem_map.mp e) λd d c=>?_;clear e d;subst c;exact .inl h
theorem nC(G:Rg g)(K:yU g ds):(tell g).Perm ds:=by
 refine(List.perm_ext_iff_of_nodup ((rE G).imp λ{p q} h z=>?_) K.nd).mpr λp=>?_
 ·subst z;exact K7 h
 ·rw[show p=(p.1,p.2)from rfl,CU G,K.mem]
theorem vt(G:Rg g)(K:yU g ds):(cy b9 (ds.map HE)).map HE=tell g:=by
 have e:=jR ((nC G K).map HE) (List.pairwise_map.mpr ((rE G).imp λ{p q} h=>by
  rw[b9,←decide_and_eq,←decide_or_eq,decide_eq_true_eq];exact KU h))
 refine rr e (rl List.map_map ?_);exact(List.map_congr_left λp a=>rfl).trans (List.map_id _)
theorem Ce{n:Nat}(h:ρ.lookup k=some (.d (bj ds)))(d:ds.length<64):aH (SM (n+1)) (.rK 5 (.var k)) ρ σ=some (.d (bj ((cy b9 (ds.map HE)).map HE)),σ):=by
 have b:∀ds:Sp,keyed (SM (n+1)) 5 (ds.map ofPair)=some (ds.map λp=>(HE p,ofPair p)):=λds=>by
  induction ds with
  |nil=>rfl
  |cons p ds f=>exact rl List.map_cons (aR (x:=ofPair (HE p)) ((kK rfl rfl).trans rfl) (aR (x:=HE p) rfl (aR f rfl)))
 refine aF (bY h) (aR (yO rfl) (bI (by rw[List.length_map];exact iY d) (aR (b ds) (bI (List.all_eq_true.mpr λq c=>?_) ?_))))
 ·refine ay (List.mem_map.mp c) λp e a=>?_;clear h d b c e;subst a;show(decide (p.1=p.1)&&decide (p.2=p.2))=true;refine rl (decide_eq_true rfl) (rl (decide_eq_true rfl) ?_);rfl
 ·simp only[List.map_map,bj];rfl
theorem jf{α:Type}{enc:α→D}(d:α→List D){m:List α}(f:pB C it yS σ=some (m.map enc,σ))
  (c:∀a,a∈m→∃ρ',cD xs (enc a) jo=some ρ'∧(∀acc:List D,acc.length+(d a).length<4096→vB C ee r ρ' ρ' σ acc=some (acc++d a,σ)))
  (j:acc.length+(m.flatMap d).length<4096):vB C ee (.cons xs it .nil r) yS jo σ acc=some (acc++m.flatMap d,σ):=by
 have:=ul (λb=>true) d f (λa g=>by
  exact ay (c a g) λρ' i h=>⟨ρ',i,and_nil,λb=>h⟩) (by rwa[List.filter_eq_self.mpr λb b=>rfl])
 rwa[List.filter_eq_self.mpr λb b=>rfl]at this
theorem Hf(G:Rg g)(K:yU g ds)(s:(((37,V.d (jz g))::r).filter λp=>[37].contains p.1)=[(37,V.d (jz g))]):
  aH (SM (n+2)) (.comp [37] (.tup (.cons (.var 53) (.cons (.var 54) .nil))) (.cons [54] (.of (.di 31 (.var 37) .nil)) .nil (.cons [1,2] (.of (.di 4 (.var 37) (.cons (.var 54) .nil))) .nil (.cons [53] (.iH (.var 1) (.var 2)) .nil .nil)))) ((37,.d (jz g))::r) σ=some (.d (bj (tell g)),σ):=by
 have e:((hs g).flatMap λy=>(g y).flatMap λp=>(dN p.1 p.2).flatMap λa=>[ofPair (a,y)])=(tell g).map ofPair:=by rw[tell,List.map_flatMap];refine congrArg (λf=>(hs g).flatMap f) (funext λy=>?_);simp only[cells,List.map_flatMap];refine congrArg (λf=>(g y).flatMap f) (funext λp=>?_);exact rl List.map_map (wL _ _)
 have t:=(nC G K).length_eq;have q:=K.len;have l:∀y p,p∈g y→(decide (p.1.natAbs<1000)&&decide (p.2.natAbs<1000))=true:=λy p i=>by have c:=FT (G.FP y) i;have o:=K.Oh p.1 y (List.any_eq_true.mpr ⟨p,i,rr decide_and_eq (decide_eq_true ⟨Int.le_refl _,c⟩)⟩);have m:=K.Oh (p.2-1) y (List.any_eq_true.mpr ⟨p,i,rr decide_and_eq (decide_eq_true (Kl c))⟩);exact rr decide_and_eq (decide_eq_true (I2 o m))
 have:=jf (C:=SM (n+2)) (ee:=λρ σ=>aH (SM (n+2)) (.tup (.cons (.var 53) (.cons (.var 54) .nil))) ρ σ) (xs:=[54]) (it:=.of (.di 31 (.var 37) .nil)) (r:=.cons [1,2] (.of (.di 4 (.var 37) (.cons (.var 54) .nil))) .nil (.cons [53] (.iH (.var 1) (.var 2)) .nil .nil)) (yS:=(37,.d (jz g))::r) (jo:=((37,V.d (jz g))::r).filter λp=>[37].contains p.1) (σ:=σ) (acc:=[])
  (λy=>(g y).flatMap λp=>(dN p.1 p.2).flatMap λa=>[ofPair (a,y)]) (dK (bZ (g:=16) rfl rfl rfl rfl rfl (gF G)) rfl) (λy v=>⟨[(37,.d (jz g)),(54,.d (.int y))],by refine rl s ?_;rfl,λacc b=>
   jf (λp=>(dN p.1 p.2).flatMap λa=>[ofPair (a,y)]) (dK (bZ rfl rfl rfl rfl rfl (ly G y)) rfl) (λp i=>⟨[(37,.d (jz g)),(54,.d (.int y)),(1,.d (.int p.1)),(2,.d (.int p.2))],rfl,λacc b=>
    jf (λa=>[ofPair (a,y)]) (fk p.1 p.2▸it_2 rfl rfl (l y p i)) (λa w=>⟨[(37,.d (jz g)),(54,.d (.int y)),(1,.d (.int p.1)),(2,.d (.int p.2)),(53,.d (.int a))],rfl,λacc b=>n8 rfl (by simp at b;exact rY b)⟩) b⟩) b⟩) (by rw[e,List.length_map];simp;exact El t q)
 rw[e]at this;exact n9 (λu z=>It.oe z) this
theorem t6(h:l.length<64)(a:(fJ l).length<19):cC .jm [bE l]=some (bE (cy fg (fJ l))):=
 bI (by rw[List.length_map];exact iY h) (aR (oW _) (bI (Nat.ble_eq.mpr a) rfl))
theorem F5(G:Rg g)(K:yU g ds):(fJ (ds.map (λx=>x.2))).length<19∧cy fg (fJ (ds.map (λx=>x.2)))=hs g:=by
 have a:∀y,y∈fJ (ds.map (λx=>x.2))↔y∈hs g:=λy=>by
  rw[fS,dH G.nB,List.mem_map];constructor
  ·intro d z;refine ay d λp b e=>?_;clear d;subst e;have:=(K.mem p.1 p.2).mp b;rw[z]at this;exact ft this
  ·intro h;cases e:g y with
   |nil=>exact absurd e h
   |cons p r=>have c:=G.FP y;rw[e]at c;exact⟨(p.1,y),(K.mem _ _).mpr (by simp only[e,br,decide_eq_true (Int.le_refl _),decide_eq_true c.2.1];rfl),rfl⟩
 have e:=tC (lB jW) (jl g) λy=>by rw[(cE _).mem_iff,a]
 refine⟨?_,e⟩;have:(fJ (ds.map (λx=>x.2))).length≤(dN (-8) 9).length:=jW.length_le_of_subset λy f=>by rw[fS]at f;refine ay (List.mem_map.mp f) λp b e=>?_;have:=K.Pj _ _ ((K.mem p.1 p.2).mp b);exact cN.mpr (Lk e this)
 rw[show(dN (-8) 9).length=17 from rfl]at this;exact KY this
theorem DR(G:Rg g):((hs g).map λy=>sW (g y)).sum=((tell g).length:Int):=by
 unfold tell;induction hs g with
 |nil=>rfl
 |cons y l a=>simp only[List.map_cons,List.sum_cons,a,List.flatMap_cons,List.length_append,List.length_map,ry (G.FP y)];exact KH
theorem B5(a b c d:Int):Am (.tup [.int a,.int b,.int c,.int d]) (.tup [.int a,.int b,.int c,.int d])=some true:=by show some (PyData.eqv (.tuple [.int a,.int b,.int c,.int d]) (.tuple [.int a,.int b,.int c,.int d]))=_;simp[PyData.eqv,PyData.eqvAll]
theorem ya{ds:Sp}(G:Rg g)(K:yU g ds):iM (n+3) 40 [jz g,bj ds] (.bool true):=by
 have Q:=K.len;have tp:=nC G K;refine a9 (F5 G K) λd1 U=>?_;let i:aB:=[(37,.d (jz g)),(52,.d (bj ds)),(55,.d (bj (tell g)))];let d:aB:=[(37,.d (jz g)),(52,.d (bj ds)),(55,.d (bj (tell g))),(38,.d (bE (hs g)))];have P:=Hf (n:=n) G K (r:=[(52,.d (bj ds))]) (σ:=[]) rfl;have s2:aH (SM (n+2)) (.cmp .ne (.var 55) (.rK 5 (.var 52))) i []=some (.d (.bool (!decide (tell g=tell g))),[]):=by refine aW rfl (Ce rfl Q) rfl rfl ?_;refine rl (vt G K) ?_;show zW (Am (bj (tell g)) (bj (tell g)))=_;rw[jP];rfl
 have O:aH (SM (n+2)) (.blt .jm (.cons (.comp [] (.var 54) (.cons [53,54] (.of (.var 52)) .nil .nil)) .nil)) i []=some (.d (bE (hs g)),[]):=by have c:=comp_map (C:=SM (n+2)) (ρ:=i) (σ:=[]) (ck:=[]) (e:=.var 54) (xs:=[53,54]) (it:=.of (.var 52)) (λp=>D.int p.2) (λv z=>It.oe z) (dK rfl rfl) (λp v=>⟨[(53,.d (.int p.1)),(54,.d (.int p.2))],rfl,rfl⟩) (by lia);rw[show ds.map (λp=>D.int p.2)=(ds.map (λx=>x.2)).map D.int by refine rl List.map_map ?_;rfl]at c;have:=t6 (by rw[List.length_map];exact Q) d1;rw[U]at this;exact aZ c rfl this
 have I:aH (SM (n+2)) (.cmp .eq (.var 52) (.lst .nil)) d []=some (.d (.bool (decide (ds=[]))),[]):=aW rfl rfl rfl rfl (jP ds []);have k:decide (hs g=[])=decide (ds=[]):=decide_eq_decide.mpr (by
  refine rr U ?_;constructor
  ·intro h;cases ds with
   |nil=>rfl
   |cons p ds=>have:p.2∈cy fg (fJ ((p::ds).map (λx=>x.2))):=(cE _).mem_iff.mpr (fS.mpr (.head _));replace this:=h▸this;cases this
  ·intro h;cases h;rfl)
 have N:aH (SM (n+2)) (.or (.cons (.cmp .ne (.di 56 (.var 37) .nil) (.blt .len (.cons (.var 52) .nil))) (.cons (.cmp .ne (.di 31 (.var 37) .nil) (.var 38)) (.cons (.cmp .ne (.di 27 (.var 37) .nil) (.cmp .eq (.var 52) (.lst .nil))) .nil)))) d []=some (.d (.bool false),[]):=by
  have W:=bZ (n:=n+2) (m:=56) (g:=19) (a:=.var 37) (ρ:=d) (σ:=[]) (l:=.nil) rfl rfl rfl rfl rfl (y9 G λy x h=>K.Oh x y h);have a2:=bZ (n:=n+2) (m:=31) (g:=16) (a:=.var 37) (ρ:=d) (σ:=[]) (l:=.nil) rfl rfl rfl rfl rfl (gF G);have V:=bZ (n:=n+2) (m:=27) (g:=17) (a:=.var 37) (ρ:=d) (σ:=[]) (l:=.nil) rfl rfl rfl rfl rfl (gY G);rw[DR G,tp.length_eq]at W;rw[k]at V;refine fL (iX (aW W (aZ rfl rfl (eT (by rw[List.length_map];lia))) rfl rfl ?_) (iX (aW a2 rfl rfl rfl ?_) (iX (aW V I rfl rfl ?_) or_nil)))
  ·rw[List.length_map];show some (!((ds.length:Int)==(ds.length:Int)))=_;rw[beq_self_eq_true];rfl
  ·show zW (Am (bE (hs g)) (bE (hs g)))=_;rw[yf,decide_eq_true rfl];rfl
  ·cases decide (ds=[])<;>rfl
 have S:=decide_eq_true (Eq.refl (tell g));by_cases j:ds=[]
 ·have H:=za (n:=n) (by rw[j,decide_eq_true rfl]at k;exact of_decide_eq_true k) G;have J:=bZ (m:=57) (a:=.var 37) (ρ:=d) (σ:=[]) (l:=.nil) rfl rfl rfl rfl rfl H;exact a6 rfl rfl rfl (ai (bK P) (ai (bu s2 (by refine rl S ?_;rfl) aM) (ai (bK O) (ai (bu N rfl aM) (aU (c8 I (decide_eq_true j) (aU (a7 (aW J rfl rfl rfl rfl))))))))) rfl
 ·refine MP (BN (n:=n) (λz=>j (by rw[z,decide_eq_true rfl]at k;exact of_decide_eq_true k.symm)) G) λu A s M H b1 b2 b3 b4 q0 q1=>?_;have J:=λρ (B:ρ.lookup 37=some (.d (jz g)))=>bZ (m:=57) (ρ:=ρ) (σ:=[]) (l:=.nil) (bY B) rfl rfl rfl rfl H;let f:aB:=[(37,.d (jz g)),(52,.d (bj ds)),(55,.d (bj (tell g))),(38,.d (bE (hs g))),(58,.d (bE (ds.map (λx=>x.1))))];have s5:aH (SM (n+2)) (.comp [] (.var 53) (.cons [53,54] (.of (.var 52)) .nil .nil)) d []=some (.d (bE (ds.map (λx=>x.1))),[]):=by have c:=comp_map (C:=SM (n+2)) (ρ:=d) (σ:=[]) (ck:=[]) (e:=.var 53) (xs:=[53,54]) (it:=.of (.var 52)) (λp=>D.int p.1) (λv z=>It.oe z) (dK rfl rfl) (λp v=>⟨[(53,.d (.int p.1)),(54,.d (.int p.2))],rfl,rfl⟩) (by lia);rwa[show ds.map (λp=>D.int p.1)=(ds.map (λx=>x.1)).map D.int by refine rl List.map_map ?_;rfl]at c
  have T:ds.map (λx=>x.1)≠[]:=by simpa using j
  refine bG (n5 T) λq f1 u2 u3=>bG (nZ T) λo f2 w2 Z=>?_;have t:∀x,x∈ds.map (λx=>x.1)↔∃y,aX x (g y)=true:=λx=>by rw[List.mem_map];exact⟨λw=>ay w λp hp e=>⟨p.2,e▸(K.mem p.1 p.2).mp hp⟩,λw=>aT w λy h=>⟨(x,y),(K.mem x y).mpr h,rfl⟩⟩
  refine aT ((t q).mp u2) λY F=>aT ((t o).mp w2) λX E=>?_;have g1:=Int.le_antisymm (u3 u ((t u).mpr b1)) (b2 q Y F);have g2:o+1=A:=by
   have:=Z (A-1) ((t _).mpr b3);have:=b4 o X E
   lia
  have L:=aZ (C:=SM (n+2)) (a:=.var 58) (ρ:=f) (σ:=[]) rfl rfl f1;have v2:=aZ (C:=SM (n+2)) (a:=.var 58) (ρ:=f) (σ:=[]) rfl rfl f2;have R:=bf (C:=SM (n+2)) (a:=.var 38) (b:=.int 0) (ρ:=f) (σ:=[]) rfl rfl rfl rfl q0;have k1:=bf (C:=SM (n+2)) (a:=.var 38) (b:=.int (-1)) (ρ:=f) (σ:=[]) rfl rfl rfl rfl q1;refine a6 (σ:=[]) rfl rfl rfl (ai (bK P) (ai (bu s2 (by refine rl S ?_;rfl) aM) (ai (bK O) (ai (bu N rfl aM) (ai (bu I (decide_eq_false j) aM) (ai (bK s5) (aU (a7 (aW (J f rfl) (gw (gG L (gG R (gG (aQ (aQ v2 rfl rfl rfl rfl) L rfl rfl rfl) (es_1 (aQ (aQ k1 rfl rfl rfl rfl) R rfl rfl rfl))))) rfl rfl) rfl rfl ?_))))))))) rfl;show Am (.tup [.int u,.int s,.int (A-u),.int (M+1-s)]) (.tup [.int q,.int s,.int (o+1-q),.int (M+1-s)])=_;refine rl g1 (rl g2 ?_);exact B5 ..
noncomputable abbrev gP(P:Int→Int→Bool):Int→Sp:=λy=>row λx=>P x y
noncomputable def cM(k:Int)(P:Int→Int→Bool):Prop:=∀x y,P x y=true→(-k≤x∧x≤k)∧(-k≤y∧y≤k)
noncomputable abbrev bU(P:Int→Int→Bool):D:=jz (gP P)
section
variable{P Q:Int→Int→Bool}{k:Int}
theorem cM.at(h:cM k P)(y:Int):rW k λx=>P x y:=λx e=>(h x y e).1
theorem rW.mono(h:rW k p)(d:k≤j):rW j p:=λx e=>by have:=h x e;exact JW d this
theorem cM.mono(h:cM k P)(d:k≤j):cM j P:=λx y e=>by have:=h x y e;exact IQ d this
theorem iS(h:cM k P)(d:k≤20)(x y:Int):aX x (gP P y)=P x y:=kJ (h.at y) d x
theorem tE(h:row p≠[]):∃x,aX x (row p)=true:=by
 cases e:row p with
 |nil=>exact absurd e h
 |cons q r=>have c:=kF p;rw[e]at c;exact⟨q.1,by simp only[br,decide_eq_true (Int.le_refl _),decide_eq_true c.2.1];rfl⟩
theorem Ds(h:∀x,p x=false):row p=[]:=by
 by_cases e:row p=[]
 ·exact e
 ·refine aT (tE e) λx d=>?_;rw[yy,h,Bool.and_false]at d;exact ft d
theorem j1(h:cM k P)(f:k≤20):Rg (gP P):=⟨λy=>kF _,λy=>tD _,λy e=>by
 refine aT (tE e) λx d=>?_;rw[kJ (h.at y) f]at d;have:=h x y d;exact JZ f this⟩
theorem BZ(h:cM 8 P)(d:ds.Nodup)(f:∀x y,(x,y)∈ds↔P x y=true)(g:ds.length<64):yU (gP P) ds:=
 ⟨d,λx y=>by rw[f,iS h (by decide)],g,λx y e=>by rw[iS h (by decide)]at e;have:=h x y e;exact Bg this,λx y e=>by rw[iS h (by decide)]at e;exact(h x y e).2⟩
theorem j6{K:Bool→Bool→Bool}(d:K false false=false)(hp:cM k P)(hq:cM k Q):cM k λx y=>K (P x y) (Q x y):=λx y h=>by
 cases e:P x y with
 |true=>exact hp x y e
 |false=>
  cases e2:Q x y with
  |true=>exact hq x y e2
  |false=>dsimp only at h;rw[e,e2,d]at h;exact ft h
end
theorem zF:∀(l ks:List Int) {x:Int},x∈l.foldl gg ks↔x∈ks∨x∈l:=by
 intro l;induction l with
 |nil=>intro ks x;exact⟨.inl,λh=>h.elim id λz=>by cases z⟩
 |cons a l d=>intro ks x;rw[List.foldl_cons,d,Ay,List.mem_cons,or_assoc]
theorem uu:∀(l ks:List Int),ks.Nodup→(l.foldl gg ks).Nodup:=by
 intro l;induction l with
 |nil=>intro ks h;exact h
 |cons a l d=>intro ks h;exact d _ (vJ h)
section
variable{C:Sem}{ρ ρ':aB}{σ σ1 σ2:ak}{a b c e i:T}{x y z:D}{v:V}{vs:List V}
theorem yK(h:aH C e ρ σ=some (.d x,σ1))(m:aH C a ρ σ1=some (.loc j,σ1))(f:aH C i ρ σ1=some (.d (.int k),σ1))(d:σ1[j]? =some (.dct l))(g:l.length<4096):fZ C (.jv a i e) (ρ,σ)=some (.next,(ρ,σ1.set j (.dct (fm l k x)))):=aF (qT h) (aF (yp m) (aF (jZ f) (aR d (aR (bI (fits_of g) rfl) rfl))))
theorem rh(h:ρ.lookup k=some (.loc j))(g:σ[j]? =some (.dct l))(f:C.new m [.d (.dct l)]=some r)(d:r.data=some x):aH C (.new m (.cons (.var k) .nil)) ρ σ=some (.d x,σ.set j (.eE (.dct l))):=by
 refine Cc (es_1 (bY h)) ?_ d;unfold jb;refine rl (show jh σ ([V.loc j].map λo=>false) [.loc j]=some ([.d (.dct l)],σ.set j (.eE (.dct l)),[]) by
  exact aF (show toD σ (.loc j)=some (.dct l,σ.set j (.eE (.dct l))) by rw[toD,g];rfl) rfl) ?_
 exact tY rfl (aR f rfl)
theorem jg{ds:List D}(h:bH C l ρ σ=some (ds.map V.d,σ1))(f:C.new m (ds.map .d)=some r)(d:r.data=some x):aH C (.new m l) ρ σ=some (.d x,σ1):=Cc h (o6 f) d
theorem zx(o:ρ.lookup k=some (.d (.fn g)))(h:bH (SM n) l ρ σ=some (ds.map V.d,σ1))(d:(SM n).cg g=ds.map λp=>false)(f:iM n g ds x):aH (SM n) (.kU k l) ρ σ=some (.d x,σ1):=ay (q7 d f) λr m j=>zw o h m j
theorem sL(g:aH C a ρ σ=some (.d x,σ))(f:aH C b ρ σ=some (.d y,σ))(d:gx o1 x y=some r)(j:aH C c ρ σ=some (.d z,σ))(h:gx o2 y z=some s):aH C (.ud o1 o2 a b c) ρ σ=some (.d (.bool (r&&s)),σ):=aF g (aF (yo f) (aR rfl (aR d (by clear g f d;cases r with
 |false=>rfl
 |true=>exact aF j (aR rfl (aR h rfl))))))
end
theorem jH{l:List Int}(h:l.length<4096):cC .dict [.lst (l.map λy=>.tup [.int y,f y])]=some (.dct (kd f (l.foldl gg []))):=by
 have j:∀l:List Int,(l.map λy=>D.tup [.int y,f y]).mapM j7=some (l.map λy=>(y,f y)):=λl=>by
  induction l with
  |nil=>rfl
  |cons a l d=>refine rl List.map_cons (rl List.mapM_cons ?_);refine rl d ?_;rfl
 have g:∀(l ks:List Int),(l.map λy=>(y,f y)).foldl (λm p=>fm m p.1 p.2) (kd f ks)=kd f (l.foldl gg ks):=λl=>by
  induction l with
  |nil=>intro ks;rfl
  |cons a l d=>intro ks;rw[List.map_cons,List.foldl_cons,sR,d];rfl
 exact aR (j l) (bI (by rw[List.length_map];exact fits_of h) (congrArg (λx=>some (D.dct x)) (g l [])))
theorem Az(h:l.length+m.length<4096):binOp .add (bE l) (bE m)=some (bE (l++m)):=by refine bI (fits_of (by rw[List.length_map,List.length_map];exact h)) ?_;rw[bE,List.map_append]
theorem yW(h:l.length+m.length<4096):binOp .add (bj l) (bj m)=some (bj (l++m)):=by refine bI (fits_of (by rw[List.length_map,List.length_map];exact h)) ?_;rw[bj,List.map_append]
theorem n7(t:tQ (n+4) g K)(N:(SM (n+4)).cg g=[false,false])(hp:cM 20 P)(hq:cM 20 Q):iM (n+5) 24 [bU P,bU Q,.fn g] (bU λx y=>K (P x y) (Q x y)):=by
 have A:=j1 hp (Int.le_refl _);have w:=j1 hq (Int.le_refl _);have R:=j1 (j6 t.1 hp hq) (Int.le_refl _);let f:Int→D:=λy=>bj (gP (λx y=>K (P x y) (Q x y)) y);have F:=iE (gP P);have E:=iE (gP Q);let env (r:aB):aB:=(6,.d (bU P))::(7,.d (bU Q))::(36,.d (.fn g))::(25,.loc 0)::r;obtain⟨⟨ρ',L⟩,e,-,u,l⟩:=cY (body:=λst=>cu (SM (n+4)) (O2.body.get 1).loop st) (s:=([]:List Int)) (st:=(env [],[.dct []])) gg
  (λi m st=>m.length≤i∧(st.1=env []∨∃a,st.1=env [(26,a)])∧st.2=[.dct (kd f m)]) ⟨Nat.le_refl _,.inl rfl,rfl⟩ λi m y ⟨ρ,σ⟩ q ⟨j,u,l⟩=>by
   refine aT (List.getElem?_eq_some_iff.mp q) λq B=>?_;rw[List.length_append]at q;have J:cD [26] (.int y) ρ=some (env [(26,.d (.int y))]):=by rcases u with h|⟨a,h⟩<;>(dsimp only at h;subst h;rfl)
   dsimp only at l;subst l;have c:=aW (C:=SM (n+4)) (o:=.iW) (a:=.var 26) (b:=.var 25) (ρ:=env [(26,.d (.int y))]) (σ:=[.dct (kd f m)]) rfl rfl rfl rfl rfl;refine(Classical.em (y∈m)).elim (λd=>?_) λd=>?_
   ·rw[eH d]at c;refine rl (show gg m y=m by unfold gg;rw[List.elem_iff.mpr d]) ?_;exact(h9 _ .next _ ⟨J,ai (bu c rfl aM) aM,(λB z=>Fl.nr z),Nat.le_succ_of_le j,.inr ⟨_,rfl⟩,rfl⟩)
   ·rw[qb d]at c;refine(h9 _ .next _ ⟨J,ai (c8 c rfl (ai (yK (x:=f y) (zx (ds:=[bj (gP P y),bj (gP Q y)]) rfl (es_2 (bZ (g:=15) rfl rfl rfl rfl rfl (ly A y)) (bZ (g:=15) rfl rfl rfl rfl rfl (ly w y))) N (t.2 (hp.at y) (hq.at y))) rfl rfl rfl (by rw[List.length_map];exact Ib F E j q)) aM)) aM,(λB z=>Fl.nr z),Nat.le_trans oR (r9 j),.inr ⟨_,rfl⟩,?_⟩);show[Cell.dct (fm (kd f m) y (f y))]=_;rw[sR]
 dsimp only at l;subst l;have H:=uu (hs (gP P)++hs (gP Q)) [] .nil;have G:∀y,y∈(hs (gP P)++hs (gP Q)).foldl gg []↔gP P y≠[]∨gP Q y≠[]:=λy=>by rw[zF,List.mem_append,dH A.nB,dH w.nB];exact⟨λh=>h.resolve_left (λz=>by cases z),.inr⟩
 have I:=H.length_le_of_subset λy d=>sX.mpr (((G y).mp d).elim (A.nB y) (w.nB y));rw[show HS.length=41 from rfl]at I;have M:=e8 (n:=n+3) R H (λy d=>(G y).mpr (by
  refine aT (tE d) λx e=>?_;rw[iS (j6 t.1 hp hq) (Int.le_refl _)]at e;cases e1:P x y with
  |true=>exact .inl λz=>by have:=iS hp (Int.le_refl _) x y;rw[z,e1]at this;exact ft this
  |false=>
   cases e2:Q x y with
   |true=>exact .inr λz=>by have:=iS hq (Int.le_refl _) x y;rw[z,e2]at this;exact ft this
   |false=>rw[e1,e2,t.1]at e;exact ft e)) (xR I)
 have O:=aQ (C:=SM (n+4)) (ρ:=env []) (σ:=[.dct []]) (aZ (a:=.attr (.var 6) 25) rfl rfl (o5 (by lia))) (aZ (a:=.attr (.var 7) 25) rfl rfl (o5 (by lia))) rfl rfl (Az (Ff F E));exact a6 rfl rfl rfl (ai (iz rfl) (ai (fW (dK O rfl) e) (aU (a7 (rh (by rcases u with h|⟨a,h⟩<;>(dsimp only at h;subst h;rfl)) rfl M rfl))))) rfl
section
variable{n:Nat}{P Q:Int→Int→Bool}(hp:cM 20 P)(hq:cM 20 Q)
include hp hq
theorem ua:iM (n+6) 25 [bU P,bU Q] (bU λx y=>OM (P x y) (Q x y)):=a6 rfl rfl rfl (aU (a7 (bT rfl rfl (n7 Ms rfl hp hq)))) rfl
theorem jc:iM (n+6) 26 [bU P,bU Q] (bU λx y=>qN (P x y) (Q x y)):=a6 rfl rfl rfl (aU (a7 (bT rfl rfl (n7 yv rfl hp hq)))) rfl
theorem lu:iM (n+6) 27 [bU P,bU Q] (bU λx y=>q5 (P x y) (Q x y)):=a6 rfl rfl rfl (aU (a7 (bT rfl rfl (n7 Dc rfl hp hq)))) rfl
theorem zh:iM (n+6) 28 [bU P,bU Q] (bU λx y=>HT (P x y) (Q x y)):=a6 rfl rfl rfl (aU (a7 (bT rfl rfl (n7 GF rfl hp hq)))) rfl
theorem nI:iM (n+7) 31 [bU P,bU Q] (.bool (decide (hs (gP λx y=>q5 (P x y) (Q x y))=[]))):=
 a6 rfl rfl rfl (aU (a7 (bZ (g:=17) (bT rfl rfl (lu hp hq)) rfl rfl rfl rfl (gY (j1 (j6 rfl hp hq) (Int.le_refl _)))))) rfl
theorem wj:iM (n+7) 32 [bU P,bU Q] (.bool (!decide (hs (gP λx y=>qN (P x y) (Q x y))=[]))):=
 a6 rfl rfl rfl (aU (a7 (wF (bZ (g:=17) (bT rfl rfl (jc hp hq)) rfl rfl rfl rfl (gY (j1 (j6 rfl hp hq) (Int.le_refl _))))))) rfl
end
theorem pN(h:cM k P)(b:k≤20)(a:gP P y≠[]):∃x,P x y=true:=by refine aT (tE a) λx e=>?_;rw[iS h b]at e;exact⟨x,e⟩
theorem pJ(a b:Int):(dN a b).foldl gg []=dN a b:=by rw[kB _ _ (λc c h=>by cases h) (cS (gT a b)),List.nil_append]
theorem rA(h:b-a<64):(dN a b).length<64:=by simp only[dN,List.length_map,List.length_range];exact Jq h
noncomputable abbrev lh(l t w h:Int):Int→Int→Bool:=λx y=>(decide (l≤x)&&decide (x<l+w))&&(decide (t≤y)&&decide (y<t+h))
theorem lZ:lh l t w h x y=true↔(l≤x∧x<l+w)∧(t≤y∧y<t+h):=by unfold lh;rw[←decide_and_eq,←decide_and_eq,←decide_and_eq,decide_eq_true_eq]
theorem xZ(g: -4≤l)(f:l≤4)(d: -4≤t)(c:t≤4)(b:w≤4)(a:h≤4):cM 8 (lh l t w h):=λx y e=>by have:=lZ.mp e;exact Ls g f d c b a this
theorem GL(hs:cM 8 (lh l t w h))(c: -20≤l)(b:0<w)(a:t≤y∧y<t+h):gP (lh l t w h) y=[(l,l+w)]:=
 (row_eq (s:=[(l,l+w)]) (hs.at y) (by decide) ⟨Jl c,EQ b,trivial⟩ λx=>by
  rw[cZ];unfold lh;simp only[decide_eq_true a.1,decide_eq_true a.2,Bool.and_true]).symm
theorem zf(o: -4≤l)(v:l≤4)(m: -4≤t)(k:t≤4)(j:0≤w)(u:w≤4)(p:0≤h)(g:h≤4):iM (n+2) 22 [.int l,.int t,.int w,.int h] (bU (lh l t w h)):=by
 have S:=xZ o v m k u g;have G:=j1 S (by decide);let ρ:aB:=[(28,.d (.int l)),(34,.d (.int t)),(32,.d (.int w)),(33,.d (.int h))];have i:aH (SM (n+1)) (.or (.cons (.cmp .lt (.var 32) (.int 0)) (.cons (.cmp .lt (.var 33) (.int 0)) .nil))) ρ []=some (.d (.bool (decide (w<0)||decide (h<0))),[]):=fL (or_2 (aW rfl rfl rfl rfl rfl) λs=>aW rfl rfl rfl rfl rfl);rw[decide_eq_false (Int.not_lt.mpr j),decide_eq_false (Int.not_lt.mpr p)]at i;have d:(dN t (t+h)).length<64:=rA (EA g);have q:aH (SM (n+1)) (.cmp .eq (.var 32) (.int 0)) ρ []=some (.d (.bool (decide (w=0))),[]):=rfl;by_cases b:w=0
 ·have c:=e8 (n:=n) G .nil (λy a=>by
   obtain⟨x,e⟩:=pN S (by decide) a;exact absurd (Int.lt_of_le_of_lt (lZ.mp e).1.1 (lZ.mp e).1.2) (Int.not_lt.mpr (b▸Int.le_of_eq (Int.add_zero l)))) (by decide)
  exact a6 (σ:=[]) rfl rfl rfl (ai (bu i rfl aM) (aU (c8 q (decide_eq_true b) (aU (a7 (jg (ds:=[.dct []]) rfl c rfl)))))) rfl
 ·have c:=e8 (n:=n) G (cS (gT _ _)) (λy a=>by
   obtain⟨x,e⟩:=pN S (by decide) a;exact cN.mpr (lZ.mp e).2) d
  have A:=comp_map (C:=SM (n+1)) (ρ:=ρ) (σ:=[]) (ck:=[28,32]) (e:=.tup (.cons (.var 26) (.cons (.lst (.cons (.tup (.cons (.var 28) (.cons (.bin .add (.var 28) (.var 32)) .nil))) .nil)) .nil))) (xs:=[26]) (it:=.iH (.var 34) (.bin .add (.var 34) (.var 33))) (λy=>D.tup [.int y,bj (gP (lh l t w h) y)]) (λs z=>It.re z) (fk t (t+h)▸it_2 rfl (aQ rfl rfl rfl rfl rfl) (rr decide_and_eq (decide_eq_true (vO m k p g)))) (λy a=>⟨[(28,.d (.int l)),(32,.d (.int w)),(26,.d (.int y))],rfl,by
    refine rl (GL S (Kq o) (EU j b) (cN.mp a)) ?_;exact gw (es_2 rfl (sN (es_1 (gw (es_2 rfl (aQ rfl rfl rfl rfl rfl)) rfl rfl)) rfl rfl)) rfl rfl⟩) (i8 d)
  have r:=jH (f:=λy=>bj (gP (lh l t w h) y)) (i8 d);rw[pJ]at r;exact a6 rfl rfl rfl (ai (bu i rfl aM) (ai (bu q (decide_eq_false b) aM) (aU (a7 (jg (ds:=[_]) (es_1 (aZ A rfl r)) c rfl))))) rfl
noncomputable abbrev Pd(ds:Sp):Int→Int→Bool:=λx y=>decide ((x,y)∈ds)
theorem Gu(b:ds.length<64):(SM (n+2)).lam 4 [(52,bj ds)] [.int y]=some (bj ((ds.reverse.filter λp=>decide (p.2=y)).map λp=>(p.1,p.1+1))):=by
 have c:=je (C:=SM (n+1)) (ρ:=[(26,.d (.int y)),(52,.d (bj ds))]) (σ:=[]) (ck:=[26]) (e:=.tup (.cons (.var 53) (.cons (.bin .add (.var 53) (.int 1)) .nil))) (xs:=[53,54]) (it:=.of (.rev (.var 52))) (ifs:=.cons (.cmp .eq (.var 54) (.var 26)) .nil) (λp=>decide (p.2=y)) (λp=>ofPair (p.1,p.1+1)) (λa z=>It.oe z) (by
  refine dK (x:=.lst (ds.reverse.map ofPair)) ?_ rfl;exact aF (bY rfl) (aR (yO rfl) (bI (fits_of (by rw[List.length_map];exact i8 b)) (by rw[List.map_reverse])))) (λp a=>⟨[(26,.d (.int y)),(53,.d (.int p.1)),(54,.d (.int p.2))],rfl,by
  cases h:decide (p.2=y)with
  |true=>exact ii (h▸rfl) and_nil
  |false=>exact gX (h▸rfl),λa=>rfl⟩) (rl List.length_reverse (i8 b))
 refine rl (kK rfl rfl) ?_;refine bI rfl (aF c ?_);simp only[bj,List.map_map];rfl
theorem zg{ds:Sp}(S:cM 8 (Pd ds))(s:ds.length<64)(o:∀x y,(x,y)∈ds→t≤y∧y<t+h)(B: -9≤t)(A:t≤9)(H:0≤h)(u:h≤9):iM (n+3) 23 [.int t,.int h,.ie 4 [(52,bj ds)]] (bU (Pd ds)):=by
 have G:=j1 S (by decide);have l:(dN t (t+h)).length<64:=rA (by rw[Int.add_comm,Int.add_sub_cancel];exact Int.lt_of_le_of_lt u (by decide));have F:=e8 (n:=n+1) G (cS (gT _ _)) (λy m=>by
   exact aT (pN S (by decide) m) λx e=>cN.mpr (o x y (of_decide_eq_true e))) l
 have k:∀y,rD ((ds.reverse.filter λp=>decide (p.2=y)).map λp=>(p.1,p.1+1))=gP (Pd ds) y:=λy=>by
  have r:∀x,aX x ((ds.reverse.filter λp=>decide (p.2=y)).map λp=>(p.1,p.1+1))=Pd ds x y:=λx=>by
   rw[Bool.eq_iff_iff,aX,List.any_eq_true,decide_eq_true_eq];constructor
   ·intro E;refine ay E λq j e=>?_;refine ay (List.mem_map.mp j) λp i g=>?_;subst g;rw[List.mem_filter,List.mem_reverse,decide_eq_true_eq]at i;rw[←decide_and_eq,decide_eq_true_eq]at e;dsimp only at e;exact rl (show(x,y)=p from Prod.ext (Ie e) i.2.symm) i.1
   ·exactλe=>⟨(x,x+1),List.mem_map.mpr ⟨(x,y),by rw[List.mem_filter,List.mem_reverse];exact⟨e,decide_eq_true rfl⟩,rfl⟩,by refine rr decide_and_eq (rl decide_eq_true_eq ?_);exact Ei⟩
  have:=uU (ps:=(ds.reverse.filter λp=>decide (p.2=y)).map λp=>(p.1,p.1+1)) (λq j=>by
   refine ay (List.mem_map.mp j) λp i g=>?_;clear o G j;subst g;rw[List.mem_filter,List.mem_reverse]at i;have:=S p.1 p.2 (decide_eq_true i.1);exact Ly this) (λx e=>by dsimp only at e;rw[r]at e;have:=S x y e;exact Bg this)
  exact rl this (congrArg row (funext r))
 have I:=comp_map (C:=SM (n+2)) (ρ:=[(34,.d (.int t)),(33,.d (.int h)),(35,.d (.ie 4 [(52,bj ds)]))]) (σ:=[]) (ck:=[35]) (e:=.tup (.cons (.var 26) (.cons (.call 0 (.cons (.kU 35 (.cons (.var 26) .nil)) .nil)) .nil))) (xs:=[26]) (it:=.iH (.var 34) (.bin .add (.var 34) (.var 33))) (λy=>D.tup [.int y,bj (gP (Pd ds) y)]) (λJ z=>It.re z) (fk t (t+h)▸it_2 rfl (aQ rfl rfl rfl rfl rfl) (rr decide_and_eq (decide_eq_true (JF B A H u)))) (λy m=>⟨[(35,.d (.ie 4 [(52,bj ds)])),(26,.d (.int y))],rfl,by
    have v:=nJ (n:=n+1) (ps:=(ds.reverse.filter λp=>decide (p.2=y)).map λp=>(p.1,p.1+1)) (by rw[List.length_map];have:=List.length_filter_le (λp:Int×Int=>decide (p.2=y)) ds.reverse;rw[List.length_reverse]at this;exact Kv s this);rw[k]at v;exact gw (es_2 rfl (bT (es_1 (pC rfl (es_1 rfl) rfl (Gu s))) rfl v)) rfl rfl⟩) (i8 l)
 have w:=jH (f:=λy=>bj (gP (Pd ds) y)) (i8 l);rw[pJ]at w;exact a6 rfl rfl rfl (aU (a7 (jg (ds:=[_]) (es_1 (aZ I rfl w)) F rfl))) rfl
noncomputable abbrev Au(dx dy:Int)(P:Int→Int→Bool):Int→Int→Bool:=λx y=>P (x-dx) (y-dy)
theorem sZ(h:cM k P)(d: -1≤dx)(c:dx≤1)(b: -1≤dy)(a:dy≤1):cM (k+1) (Au dx dy P):=λx y e=>by have:=h _ _ e;exact JK d c b a this
theorem nK(S:cM 8 P)(o: -1≤dx)(m:dx≤1)(t: -1≤dy)(s:dy≤1):iM (n+2) 29 [bU P,.int dx,.int dy] (bU (Au dx dy P)):=by
 have G:=j1 S (by decide);have q:=sZ S o m t s;have v:=j1 q (by decide);have g:∀y,shift dx (gP P y)=gP (Au dx dy P) (y+dy):=λy=>by refine rl (z8 (rW.mono (S.at y) (by decide)) (Lo o) (EW m)) ?_;refine congrArg row (funext λx=>?_);show P (x-dx) y=P (x-dx) (y+dy-dy);rw[show y+dy-dy=y by exact E3]
 have k:((hs (gP P)).map (λx=>x+dy)).Nodup:=cS (List.pairwise_map.mpr ((jl _).imp λh=>Er h));have r:=e8 (n:=n) v k (λy i=>by
  refine aT (pN q (by decide) i) λx e=>List.mem_map.mpr ⟨y-dy,(dH G.nB).mpr λz=>?_,KJ⟩;have:=iS S (by decide) (x-dx) (y-dy);rw[z,show P (x-dx) (y-dy)=true from e]at this;exact ft this) (by rw[List.length_map];have:=iE (gP P);exact xR this)
 have u:=comp_map (ρ:=[(37,.d (bU P)),(29,.d (.int dx)),(38,.d (.int dy))]) (σ:=[]) (ck:=[38,29,37]) (e:=.tup (.cons (.bin .add (.var 26) (.var 38)) (.cons (.call 13 (.cons (.sub (.attr (.var 37) 25) (.var 26)) (.cons (.var 29) .nil))) .nil))) (xs:=[26]) (it:=.of (.attr (.var 37) 25)) (λy=>D.tup [.int (y+dy),bj (gP (Au dx dy P) (y+dy))]) (λj z=>It.oe z) (dK rfl (congrArg some kC)) (λy i=>⟨[(37,.d (bU P)),(29,.d (.int dx)),(38,.d (.int dy)),(26,.d (.int y))],rfl,by
   have c:=wi (n:=n) (d:=dx) (r6 (G.len y));rw[g]at c;exact gw (es_2 (aQ rfl rfl rfl rfl rfl) (bT (ds:=[_,_]) (es_2 (bf rfl rfl rfl rfl (eH i)) rfl) rfl c)) rfl rfl⟩) (Nat.lt_of_le_of_lt (iE (gP P)) (by decide))
 have p:=jH (f:=λy=>bj (gP (Au dx dy P) y)) (l:=(hs (gP P)).map (λx=>x+dy)) (by rw[List.length_map];exact Nat.lt_of_le_of_lt (iE (gP P)) (by decide));rw[kB _ _ (λj j h=>by cases h) k,List.nil_append,List.map_map]at p;exact a6 rfl rfl rfl (aU (a7 (jg (ds:=[_]) (es_1 (aZ u rfl p)) r rfl))) rfl
noncomputable abbrev As(l t w h:Int)(P:Int→Int→Bool):Int→Int→Bool:=λx y=>P x y&&lh l t w h x y
theorem ze{l t w h:Int}(S:cM 8 P)(N: -4≤l)(M:l≤4)(V:0≤w)(L:w≤4)(W:0≤h):iM (n+6) 30 [bU P,.int l,.int t,.int w,.int h] (bU (As l t w h P)):=by
 have G:=j1 S (by decide);have I:cM 8 (As l t w h P):=λx y e=>S x y (Bool.and_eq_true_iff.mp e).1;have U:=j1 I (by decide);let f:Int→D:=λy=>bj (gP (As l t w h P) y);let env (r:aB):aB:=(37,.d (bU P))::(28,.d (.int l))::(34,.d (.int t))::(32,.d (.int w))::(33,.d (.int h))::r;have B:=iE (gP P);have H:aH (SM (n+5)) (.or (.cons (.cmp .lt (.var 32) (.int 0)) (.cons (.cmp .lt (.var 33) (.int 0)) .nil))) (env []) []=some (.d (.bool (decide (w<0)||decide (h<0))),[]):=fL (or_2 (aW rfl rfl rfl rfl rfl) λq=>aW rfl rfl rfl rfl rfl);rw[decide_eq_false (by lia),decide_eq_false (by lia)]at H;obtain⟨⟨ρ',J⟩,e,-,k,d⟩:=cY (body:=λst=>cu (SM (n+5)) (O3.body.get 2).loop st) (s:=([]:List Int)) (st:=(env [(25,.loc 0)],[.dct []]))
  (λm y=>match decide (t≤y)&&decide (y<t+h)with |true=>gg m y|false=>m)
  (λi m st=>m.length≤i∧(st.1=env [(25,.loc 0)]∨∃a,st.1=env [(25,.loc 0),(26,a)])∧st.2=[.dct (kd f m)]) ⟨Nat.le_refl _,.inl rfl,rfl⟩ λi m y ⟨ρ,σ⟩ v ⟨j,k,d⟩=>by
   obtain⟨v,O⟩:=List.getElem?_eq_some_iff.mp v;have u:=O▸List.getElem_mem _;have E:cD [26] (.int y) ρ=some (env [(25,.loc 0),(26,.d (.int y))]):=by rcases k with h|⟨a,h⟩<;>(dsimp only at h;subst h;rfl)
   dsimp only at d;subst d;have c:=sL (C:=SM (n+5)) (o1:=.le) (o2:=.lt) (a:=.var 34) (b:=.var 26) (c:=.bin .add (.var 34) (.var 33)) (ρ:=env [(25,.loc 0),(26,.d (.int y))]) (σ:=[.dct (kd f m)]) rfl rfl (r:=decide (t≤y)) rfl (aQ rfl rfl rfl rfl rfl) (s:=decide (y<t+h)) rfl;cases hc:(decide (t≤y)&&decide (y<t+h))with
   |false=>replace c:=hc▸c;exact(h9 _ .next _ ⟨E,ai (bu c rfl aM) aM,(λq z=>Fl.nr z),Nat.le_succ_of_le j,.inr ⟨_,rfl⟩,rfl⟩)
   |true=>
    rw[hc]at c;have F:=BO (n:=n) (rW.mono (S.at y) (by decide)) (Ep N) (IB M L);rw[show(λx=>P x y&&(decide (l≤x)&&decide (x<l+w)))=λx=>As l t w h P x y from funext λx=>by
     unfold As lh;rw[hc,Bool.and_true]]at F
    refine(h9 _ .next _ ⟨E,ai (c8 c rfl (ai (yK (x:=f y) (bT (ds:=[bj (gP P y),.int l,.int (l+w)]) (es_3 (bf rfl rfl rfl rfl (eH u)) rfl (aQ rfl rfl rfl rfl rfl)) rfl F) rfl rfl rfl (by rw[List.length_map];exact Il B j v)) aM)) aM,(λq z=>Fl.nr z),Nat.le_trans oR (r9 j),.inr ⟨_,rfl⟩,?_⟩);show[Cell.dct (fm (kd f m) y (f y))]=_;rw[sR]
 dsimp only at d;subst d;have A:=(cS (jl (gP P))).sublist (List.filter_sublist (p:=λy=>decide (t≤y)&&decide (y<t+h)))
 erw [uv (λy=>decide (t≤y)&&decide (y<t+h)) gg]at e
 rw[kB _ _ (λq q h=>by cases h) A,List.nil_append]at e;have K:=e8 (n:=n+4) U A (λy u=>by
  refine aT (pN I (by decide) u) λx e=>a9 (Bool.and_eq_true_iff.mp e) λT R=>?_;rw[List.mem_filter,dH G.nB];refine⟨λz=>?_,(Bool.and_eq_true_iff.mp R).2⟩;have:=iS S (by decide) x y;rw[z,T]at this;exact ft this) (Jf B (List.length_filter_le (λy=>decide (t≤y)&&decide (y<t+h)) (hs (gP P))))
 have Q:=bZ (n:=n+5) (m:=31) (g:=16) (a:=.var 37) (ρ:=env [(25,.loc 0)]) (σ:=[.dct []]) (l:=.nil) rfl rfl rfl rfl rfl (gF G);exact a6 rfl rfl rfl (ai (bu H rfl aM) (ai (iz rfl) (ai (fW (dK Q rfl) e) (aU (a7 (rh (by rcases k with h|⟨a,h⟩<;>(dsimp only at h;subst h;rfl)) rfl K rfl)))))) rfl
noncomputable abbrev Prim(P:Int→Int→Bool):Int→Int→Bool:=λx y=>q5 (P x y) (qN (qN (qN (qN (P x y) (P (x-1) (y-0))) (P (x- -1) (y-0))) (P (x-0) (y-1))) (P (x-0) (y- -1)))
theorem BQ(S:cM 8 P):iM (n+7) 33 [bU P] (bU (Prim P)):=by
 obtain⟨⟨ρ',p⟩,e,k,g,f⟩:=cY (body:=λst=>cu (SM (n+6)) (O4.body.get 1).loop st) (l:=[(1,0),(-1,0),(0,1),(0,-1)]) (st:=([(37,.d (bU P)),(39,.d (bU P))],[]))
  (λR d=>λx y=>qN (R x y) (P (x-d.1) (y-d.2)))
  (λi R st=>cM 8 R∧(st.1=[(37,.d (bU P)),(39,.d (bU R))]∨∃a b,st.1=[(37,.d (bU P)),(39,.d (bU R)),(29,a),(38,b)])∧st.2=[]) ⟨S,.inl rfl,rfl⟩ λi R d ⟨ρ,σ⟩ m ⟨o,g,f⟩=>by
   have q:cD [29,38] (ofPair d) ρ=some [(37,.d (bU P)),(39,.d (bU R)),(29,.d (.int d.1)),(38,.d (.int d.2))]:=by rcases g with h|⟨a,b,h⟩<;>(dsimp only at h;subst h;rfl)
   dsimp only at f;subst f;have c:(-1≤d.1∧d.1≤1)∧(-1≤d.2∧d.2≤1):=by have:=List.mem_of_getElem? m;simp only[List.mem_cons,List.not_mem_nil,or_false]at this;clear m;rcases this with h|h|h|h<;>subst h<;>decide
   have r:=nK (n:=n+4) S c.1.1 c.1.2 c.2.1 c.2.2;have t:=jc (n:=n) (cM.mono o (by decide)) (cM.mono (sZ S c.1.1 c.1.2 c.2.1 c.2.2) (by decide));exact(h9 _ .next _ ⟨q,ai (bK (bT (ds:=[_,_]) (es_2 rfl (bT rfl rfl r)) rfl t)) aM,(λu z=>Fl.nr z),λx y e=>o x y (Bool.and_eq_true_iff.mp e).1,.inr (fu _ _ rfl),rfl⟩)
 dsimp only at f;subst f;have s:=lu (n:=n) (cM.mono S (by decide)) (cM.mono k (by decide));have j:aH (SM (n+6)) (.tup (.cons (.tup (.cons (.int 1) (.cons (.int 0) .nil))) (.cons (.tup (.cons (.int (-1)) (.cons (.int 0) .nil))) (.cons (.tup (.cons (.int 0) (.cons (.int 1) .nil))) (.cons (.tup (.cons (.int 0) (.cons (.int (-1)) .nil))) .nil))))) [(37,.d (bU P)),(39,.d (bU P))] []=some (.d (.tup ([(1,0),(-1,0),(0,1),(0,-1)].map ofPair)),[]):=rfl;exact a6 rfl rfl rfl (ai (bK rfl) (ai (fW (dK j rfl) e) (aU (a7 (bT (es_2 (bY (by clear S k e j;rcases g with h|⟨a,b,h⟩<;>(dsimp only at h;subst h;rfl))) (bY (by clear S k e j;rcases g with h|⟨a,b,h⟩<;>(dsimp only at h;subst h;rfl)))) rfl s))))) rfl
noncomputable def Sg(x:Str):Prop:=∀c∈x.cps.toList,c=35∨c=46
theorem vo(h:Sg x):PyData.strOk x=true:=by unfold PyData.strOk;rw[←Array.all_toList,List.all_eq_true];refineλc a=>Or.elim (h c a) (λe=>?_) λe=>?_<;>(clear h a;subst e;rfl)
theorem yh(d:Sg a)(c:Sg b):Am (.str a) (.str b)=some (decide (a=b)):=
 bI (show(PyData.strOk a&&PyData.strOk b)=true by refine rl (vo d) (rl (vo c) ?_);rfl) rfl
noncomputable abbrev bM(a b:Int):Cell:=.lst [.int a,.int b]
theorem mul_r(h:b.natAbs<9223372036854775808):binOp .mul (.int a) (.int b)=some (.int (a*b)):=
 bI (by rw[decide_eq_true h,Bool.or_true]) rfl
theorem qf(h:0<b):∃m,binOp .mod (.int a) (.int b)=some (.int m)∧0≤m∧m<b:=by refine⟨Int.fmod a b,?_,Int.fmod_nonneg_of_pos a h,Int.fmod_lt_of_pos a h⟩;show cond (decide (b=0)) _ _=_;refine rl (decide_eq_false (Int.ne_of_gt h)) ?_;rfl
theorem Cg(h:0<b)(c:b.natAbs<9223372036854775808):binOp .fdiv (.int a) (.int b)=some (.int (Int.fdiv a b)):=by show cond (decide (b=0)|| !decide (b.natAbs<9223372036854775808)) _ _=_;refine rl (decide_eq_false (Int.ne_of_gt h)) (rl (decide_eq_true c) ?_);rfl
theorem zd(s:ns.length≤63):∃a b,(SM (n+1)).call 34 [.d (bE ns),.d (.int 0)]=some (.c (bM a b),[]):=by
 have q:(ns.map D.int).length<4096:=by rw[List.length_map];exact Ji s
 let env (r:aB):aB:=(42,.d (bE ns))::(41,.d (.int 0))::r;obtain⟨c,w⟩:∃c,fZ (SM n) (Nl.body.get 1) (env [(40,.d (.int 0))],[])=some (.next,(env [(40,.d (.int c))],[])):=by
  have t:=aW (C:=SM n) (o:=.lt) (a:=.var 41) (ρ:=env [(40,.d (.int 0))]) (σ:=[]) rfl (aZ (a:=.var 42) rfl rfl (eT q)) rfl rfl rfl;clear s q;cases ns with
  |nil=>exact⟨0,bu t rfl aM⟩
  |cons a l=>exact⟨a,c8 t (decide_eq_true (by rw[List.length_map];exact Int.natCast_pos.mpr (Nat.succ_pos _))) (ai (bK (bf rfl rfl rfl rfl qE)) aM)⟩
 obtain⟨b,x⟩:∃b:Int,fZ (SM n) (Nl.body.get 2) (env [(40,.d (.int c))],[])=some (.next,(env [(40,.d (.int c)),(43,.d (.int b))],[])):=⟨_,rfl⟩;refine ay (qf (a:=b) (b:=2147483629) (by decide)) λu A p=>ay (qf (a:=7919*0) (b:=2147483629) (by decide)) λB E p=>ay (qf (a:=(u+7919*0*0+31*0+17)*48271) (b:=2147483647) (by decide)) λg z p=>?_;have m:fZ (SM n) (Nl.body.get 3) (env [(40,.d (.int c)),(43,.d (.int b))],[])=some (.next,(env [(40,.d (.int c)),(43,.d (.int b)),(44,.d (.int g))],[])):=
  bK (aQ (aZ (aQ (aQ (aQ (aQ (aQ (aZ rfl rfl rfl) rfl rfl rfl A) (aQ (aQ rfl rfl rfl rfl rfl) rfl rfl rfl rfl) rfl rfl rfl) (aQ rfl rfl rfl rfl rfl) rfl rfl rfl) rfl rfl rfl rfl) rfl rfl rfl (mul_r (by decide))) rfl rfl) rfl rfl rfl z)
 obtain⟨k,v⟩:∃k:Int,aH (SM n) (.bin .mul (.var 43) (.blt .int (.cons (.cmp .ge (.var 43) (.bin .pow (.int 10) (.int 18))) .nil))) (env [(40,.d (.int c)),(43,.d (.int b)),(44,.d (.int g))]) []=some (.d (.int k),[]):=by
  have t:=aW (C:=SM n) (o:=.ge) (a:=.var 43) (b:=.bin .pow (.int 10) (.int 18)) (ρ:=env [(40,.d (.int c)),(43,.d (.int b)),(44,.d (.int g))]) (σ:=[]) rfl rfl rfl rfl (r:=decide ((1000000000000000000:Int)≤b)) rfl;cases h:decide ((1000000000000000000:Int)≤b)with
  |true=>rw[h]at t;exact⟨_,aQ rfl (aZ t rfl rfl) rfl rfl (mul_r (by decide))⟩
  |false=>rw[h]at t;exact⟨_,aQ rfl (aZ t rfl rfl) rfl rfl (mul_r (by decide))⟩
 refine(fu k g (?_));refine rl (fE rfl rfl) ?_;refine fC (σ:=[bM k g]) rfl (ai rfl (ai w (ai x (ai m (aU (G4 (σ1:=[]) ?_)))))) rfl;exact aF (es_2 v rfl) (aF rfl (bI rfl rfl))
theorem zl(h:0<t)(m:t.natAbs<9223372036854775808):∃v a' b',(SM (n+1)).call 35 [.c (bM a b),.d (.int t)]=some (.d (.int v),[bM a' b'])∧0≤v∧v<t:=by
 have i:aH (SM n) (.cmp .gt (.sub (.var 45) (.int 0)) (.int 0)) [(45,.loc 0),(34,.d (.int t))] [bM a b]=some (.d (.bool (decide (0<a))),[bM a b]):=rfl;by_cases g:0<a
 ·obtain⟨v,f,e,d⟩:=qf h;refine(h9 v (Int.fdiv a t) b ⟨?_,e,d⟩);refine rl (fE rfl rfl) ?_;refine fC (σ:=[bM (Int.fdiv a t) b]) (ρ':=[(45,.loc 0),(34,.d (.int t)),(46,.d (.int v))]) rfl (aU (c8 i (decide_eq_true g) (ai (bK (aQ rfl rfl rfl rfl f)) (ai ?_ (aU (a7 rfl)))))) rfl;exact aF (qT (aQ rfl rfl rfl rfl (Cg h m))) rfl
 ·obtain⟨c,f,l,k⟩:=qf (b:=2147483647) (by decide);refine ay (qf (a:=c*c) (b:=2147483629) (by decide)) λj p q=>bG (qf (a:=Int.fdiv j 32) h) λv o e d=>(h9 v a c ⟨?_,e,d⟩);refine rl (fE rfl rfl) ?_;refine fC rfl (ai (bu i (decide_eq_false g) aM) (ai (st':=([(45,.loc 0),(34,.d (.int t))],[bM a c])) ?_ (aU (a7 (aQ (aZ (aQ (aQ (aZ (aQ rfl rfl rfl rfl (mul_r (JV l k))) rfl rfl) rfl rfl rfl p) rfl rfl rfl (Cg (by decide) (by decide))) rfl rfl) rfl rfl rfl o))))) rfl;exact aF (qT (aQ (aZ (aQ (aQ rfl rfl rfl rfl (mul_r (by decide))) rfl rfl rfl rfl) rfl rfl) rfl rfl rfl f)) rfl
section
variable{n:Nat}{ρ:aB}{τ:ak}{a b t:Int}{e:T}{l:List D}
theorem fz(i:ρ.lookup 45=some (.loc 0))(j:aH (SM (n+1)) e ρ (bM a b::τ)=some (.d (.int t),bM a b::τ))(h:0<t)(m:t<5000):∃v a' b',aH (SM (n+1)) (.call 35 (.cons (.var 45) (.cons e .nil))) ρ (bM a b::τ)=some (.d (.int v),bM a' b'::τ)∧0≤v∧v<t:=jE (zl h (JP h m)) λv a' b' k o=>(h9 v a' b' ⟨ir (es_2 (bY i) j) (eR rfl k rfl) rfl,o⟩)
theorem call_one(k:l≠[])(d:l.length<4096):∃x a' b',(SM (n+2)).call 36 [.c (bM a b),.d (.lst l)]=some (.d x,[bM a' b'])∧x∈l:=by
 have c:aH (SM (n+1)) (.blt .len (.cons (.var 47) .nil)) [(45,.loc 0),(47,.d (.lst l))] [bM a b]=some (.d (.int (l.length:Int)),[bM a b]):=aZ rfl rfl (eT d);have h:=List.length_pos_iff.mpr k;refine fG (fz rfl c (LI h) (E5 d)) λv a' b' e f j=>?_;have hn:v.toNat<l.length:=by exact Bu f j
 have g:=List.getElem?_eq_getElem hn;refine(h9 (l[v.toNat]'hn) a' b' ⟨?_,List.getElem_mem _⟩);have:=nA g d;rw[show((v.toNat:Nat):Int)=v by exact AD f]at this;exact rl (fE rfl rfl) (fC rfl (aU (a7 (bf rfl e rfl rfl this))) rfl)
theorem Cd(h:ρ.lookup 45=some (.loc 0))(j:aH (SM (n+2)) e ρ (bM a b::τ)=some (.d (.lst l),bM a b::τ))(o:l≠[])(i:l.length<4096):∃x a' b',aH (SM (n+2)) (.call 36 (.cons (.var 45) (.cons e .nil))) ρ (bM a b::τ)=some (.d x,bM a' b'::τ)∧x∈l:=jE (call_one o i) λx a' b' k m=>(h9 x a' b' ⟨ir (es_2 (bY h) j) (eR rfl k rfl) rfl,m⟩)
end
theorem B7(h:ee jo σ=some (.d x,σ'))(c:acc.length<4096):vB C ee .nil yS jo σ acc=some (acc++[x],σ'):=aF h (aF rfl (bI (fits_of c) rfl))
theorem zv{C:Sem}(R:Nat→List D→ak→Prop)(v:pB C it yS σ=some (l,σ1))(z:R 0 acc σ1)
  (g:∀i x acc σ,l[i]? =some x→R i acc σ→acc.length<4096∧∃ρ' d σ',cD xs x jo=some ρ'∧ee ρ' σ=some (.d d,σ')∧R (i+1) (acc++[d]) σ'):∃acc' σ',vB C ee (.cons xs it .nil .nil) yS jo σ acc=some (acc',σ')∧R l.length acc' σ':=by
 have k:∀(m:List D) (j:Nat) (acc:List D) (σ:ak),(∀i x,m[i]? =some x→l[j+i]? =some x)→R j acc σ→∃acc' σ',jt (pg xs jo (dJ C .nil) λρ σ acc=>vB C ee .nil ρ ρ σ acc) m (acc,σ)=some (acc',σ')∧R (j+m.length) acc' σ':=by
  intro m;induction m with
  |nil=>intro j acc σ _ h;exact(fu acc σ ⟨by rw[jt],h⟩)
  |cons x m r=>refineλj acc σ p h=>a9 (g j x acc σ (p 0 x rfl) h) λu q=>fG q λρ' d σ' E B h'=>cJ (r (j+1) (acc++[d]) σ' (λi y s=>by refine rl A6 ?_;exact p (i+1) y (by simpa using s)) h') λc f A o=>?_;exact(fu c f ⟨aR (aR E (aF rfl (B7 (C:=C) (yS:=ρ') B u))) A,by refine rl List.length_cons (rl r4 ?_);exact o⟩)
 refine cJ (k l 0 acc σ1 (λi x h=>by rw[Nat.zero_add];exact h) z) λc f w o=>?_;exact(fu c f ⟨aF v w,by rwa[Nat.zero_add]at o⟩)
noncomputable abbrev kR(x y:Int)(rs:List Str):D:=.lst [.int x,.int y,.lst (rs.map D.str)]
structure Eb(x y:Int)(rs:List Str):Prop where
 hx: -3≤x∧x≤2
 hy: -2≤y∧y≤2
 len:rs.length≤4
 row:∀r∈rs,r.cps.toList.length≤5∧Sg r
noncomputable def N1(r:Str):Bool:=Nat.ble r.cps.toList.length 5&&r.cps.toList.all λc=>Nat.beq c 35||Nat.beq c 46
theorem GB(h:N1 r=true):r.cps.toList.length≤5∧Sg r:=by
 refine a9 (Bool.and_eq_true_iff.mp h) λi g=>⟨Nat.le_of_ble_eq_true i,λc f=>?_⟩;have:=List.all_eq_true.mp g c f;rcases Bool.or_eq_true_iff.mp this with h|h
 ·exact .inl (Nat.eq_of_beq_eq_true h)
 ·exact .inr (Nat.eq_of_beq_eq_true h)
theorem DG:∀d∈bz.signs,∃r,d= .str r∧r.cps.toList.length≤5∧Sg r:=by
 have h:(bz.signs.all λd=>match d with | .str r=>N1 r|_=>false)=true:=by decide+kernel
 intro d c;have:=List.all_eq_true.mp h d c;clear h c;cases d with
 |str r=>exact⟨r,rfl,GB this⟩
 |_=>exact ft this
theorem o8{n:Nat}:∃x y rs a' b',(SM (n+3)).call 37 [.c (bM a b)]=some (.d (kR x y rs),[bM a' b'])∧Eb x y rs:=by
 refine fG (fz (n:=n+1) (ρ:=[(45,.loc 0)]) (τ:=[]) (a:=a) (b:=b) (e:=.int 6) rfl rfl (by decide) (by decide)) λu a1 X T O A=>fG (fz (n:=n+1) (ρ:=[(45,.loc 0)]) (τ:=[]) (a:=a1) (b:=X) (e:=.int 5) rfl rfl (by decide) (by decide)) λv a2 W S J k=>?_;let j:aB:=[(45,.loc 0),(28,.d (.int (u-3))),(34,.d (.int (v-2)))];refine fG (fz (n:=n+1) (ρ:=j) (τ:=[]) (a:=a2) (b:=W) (e:=.int 5) rfl rfl (by decide) (by decide)) λw Z V N I c=>?_;have B:(upto 0 w).length≤4:=by simp only[upto,List.length_map,List.length_range];exact KG c
 obtain⟨acc,σ,R,rs,Y,U,G,F,o,E⟩:=zv (C:=SM (n+2)) (ee:=λρ σ=>aH (SM (n+2)) (.call 36 (.cons (.var 45) (.cons .signs .nil))) ρ σ) (xs:=[48]) (jo:=j.filter λp=>[45].contains p.1)
  (λi acc σ=>∃(rs:List Str) (a b:Int),acc=rs.map D.str∧σ=[bM a b]∧rs.length=i∧∀r∈rs,r.cps.toList.length≤5∧Sg r) (it_1 N (decide_eq_true (Es I c))) (h9 ([]) Z V ⟨rfl,rfl,rfl,λr h=>by cases h⟩) λi x acc σ K H=>iL H λrs a b G F o E=>by
   have L:=(List.getElem?_eq_some_iff.mp K).1;subst G F;refine⟨by rw[List.length_map];exact ER B o L,?_⟩;refine jE (Cd (n:=n) (ρ:=[(45,.loc 0),(48,.d x)]) (τ:=[]) (a:=a) (b:=b) (e:=.signs) (l:=bz.signs) rfl rfl (by intro z;cases z) (by decide)) λd a' b' e M=>?_;refine ay (DG d M) λr s P=>?_;clear J k N I c B K L H M;subst s;refine(h9 _ _ _ ⟨rfl,e,rs++[r],a',b',by refine rl List.map_append ?_;rfl,rfl,by refine rl List.length_append (rl o ?_);rfl,λq Q=>?_⟩);refine Or.elim (List.mem_append.mp Q) (λm=>?_) λm=>?_
   ·exact E q m
   ·rw[List.mem_singleton]at m;exact rl m P
 subst G F;refine(Hg (u-3) (v-2) rs Y U ⟨?_,⟨Iz O A,Fd J k,EB B o,E⟩⟩);exact rl (fE rfl rfl) (fC rfl (ai (gb (fM (aQ T rfl rfl rfl rfl) (fM (aQ S rfl rfl rfl rfl) gK)) rfl) (aU (a7 (sN (es_3 rfl rfl (n9 (λg z=>((congrArg (λx=>@It.casesOn (λg=>Prop) x (λg=>True) (λg=>True) (λg zy=>True) (λg=>True) λg=>False) z).mp trivial).elim) R)) rfl rfl)))) rfl)
noncomputable def eO(x y:Int):List Nat→Sp
 |[]=>[]
 |c::cs=>match decide (c=35)with
  |true=>(x,y)::eO (x+1) y cs
  |false=>eO (x+1) y cs
noncomputable def eN(x y:Int):List Str→Sp
 |[]=>[]
 |r::rs=>eO x y r.cps.toList++eN x (y+1) rs
theorem pq(y:Int):∀(cs:List Nat) (x:Int),(∀a b,(a,b)∈eO x y cs→b=y∧x≤a∧a<x+cs.length)∧(eO x y cs).Nodup∧(eO x y cs).length≤cs.length:=by
 intro cs;induction cs with
 |nil=>intro x;exact⟨(λa b h=>by cases h),.nil,Nat.le_refl _⟩
 |cons c cs j=>
  refineλx=>bR (j (x+1)) λk i g=>?_;have e:∀a b,(a,b)∈eO (x+1) y cs→b=y∧x<a∧a<x+((c::cs).length:Int):=λa b h=>by have:=k a b h;simp only[List.length_cons];exact I5 this
  unfold eO;cases decide (c=35)with
  |true=>
   refine⟨λa b h=>?_,List.nodup_cons.mpr ⟨λm=>E4 (e _ _ m),i⟩,Nat.succ_le_succ g⟩;refine Or.elim (List.mem_cons.mp h) (λh=>?_) λh=>?_
   ·cases h;exact rl List.length_cons EV
   ·have:=e a b h;exact⟨this.1,Int.le_of_lt this.2.1,this.2.2⟩
  |false=>exact⟨λa b h=>have q:=e a b h;⟨q.1,Int.le_of_lt q.2.1,q.2.2⟩,i,Nat.le_succ_of_le g⟩
theorem wx(x:Int):∀(rs:List Str) (y:Int),(∀r∈rs,r.cps.toList.length≤5)→(∀a b,(a,b)∈eN x y rs→(y≤b∧b<y+rs.length)∧x≤a∧a<x+5)∧(eN x y rs).Nodup∧(eN x y rs).length≤5*rs.length:=by
 intro rs;induction rs with
 |nil=>intro y _;exact⟨(λa b h=>by cases h),.nil,Nat.le_refl _⟩
 |cons r rs g=>
  refineλy d=>bR (g (y+1) λq c=>d q (.tail _ c)) λe k j=>bR (pq y r.cps.toList x) λf n m=>?_;have l:=d r (.head _);unfold eN;refine⟨λa b h=>?_,List.nodup_append.mpr ⟨n,k,λp i q c z=>?_⟩,?_⟩
  ·simp only[List.length_cons];refine Or.elim (List.mem_append.mp h) (λh=>?_) λh=>?_
   ·have:=f a b h;exact LF l this
   ·have:=e a b h;exact JJ this
  ·exact absurd (e q.1 q.2 c).1.1 (by rw[←z,(f p.1 p.2 i).1];exact Int.not_le.mpr (Int.lt_succ y))
  ·simp only[List.length_append];exact LG j m l
structure HJ(x y:Int)(rs:List Str)(ds:Sp):Prop where
 nB:cM 7 (Pd ds)
 Oh:∀a b,(a,b)∈ds→x≤a∧a<x+5
 Pj:∀a b,(a,b)∈ds→y≤b∧b<y+rs.length
 nd:ds.Nodup
 len:ds.length≤20
theorem sJ(P:Eb x y rs):HJ x y rs (eN x y rs):=by refine bR (wx x rs y λr j=>(P.row r j).1) λf l k=>?_;have i:=P.hx;have g:=P.hy;have this:=P.len;exact⟨λa b e=>have q:=f a b (of_decide_eq_true e);⟨⟨Int.le_trans (Int.le_trans (by decide) i.1) q.2.1,Int.le_of_lt (Int.lt_of_lt_of_le q.2.2 (Int.add_le_add_right i.2 5))⟩,Int.le_trans (Int.le_trans (by decide) g.1) q.1.1,Int.le_of_lt (Int.lt_of_lt_of_le q.1.2 (Int.le_trans (Int.add_le_add g.2 (Int.ofNat_le.mpr this)) (by decide)))⟩,λa b h=>(f a b h).2,λa b h=>(f a b h).1,l,Lp k this⟩
noncomputable def fy{α:Type}(n:Int):List α→List (Int×α)
 |[]=>[]
 |a::l=>(n,a)::fy (n+1) l
theorem pA(f:α→D):∀(l:List α) (n:Int),g5 n (l.map f)=(fy n l).map λp=>.tup [.int p.1,f p.2]:=by
 intro l;induction l with
 |nil=>intro n;rfl
 |cons a l b=>intro n;refine rl List.map_cons ?_;simp only[g5,b];rfl
theorem rz:∀(l:List α) (n:Int),(fy n l).length=l.length:=by
 intro l;induction l with
 |nil=>intro n;rfl
 |cons a l b=>intro n;simp only[fy,List.length_cons,b]
theorem iT:∀{l:List α} {n k:Int} {a:α},(k,a)∈fy n l↔n≤k∧l[(k-n).toNat]? =some a:=by
 intro l;induction l with
 |nil=>intro n k a;exact⟨(λh=>by cases h),λh=>by cases h.2⟩
 |cons b l g=>
  intro n k a;rw[fy,List.mem_cons,g,Prod.mk.injEq];constructor
  ·rintro(⟨d,c⟩|⟨d,c⟩)
   ·subst d c;exact⟨Int.le_refl _,by rw[Int.sub_self];rfl⟩
   ·refine⟨Kx d,?_⟩;rw[show(k-n).toNat=(k-(n+1)).toNat+1 by exact KS d];exact c
  ·intro f;refine a9 f λd c=>?_;by_cases e:k=n
   ·clear g f;subst e;rw[Int.sub_self]at c;exact .inl ⟨rfl,(Option.some.inj c).symm⟩
   ·refine .inr ⟨LH d e,?_⟩;rw[show(k-n).toNat=(k-(n+1)).toNat+1 by exact Ko d e]at c;exact c
noncomputable def qB(x y:Int)(found:Sp)(p:Int×Nat):Sp:=match decide (p.2=35)with
 |true=>found++[(x+p.1,y)]
 |false=>found
theorem Cj(x y:Int):∀(cs:List Nat) (k:Int) (f:Sp),(fy k cs).foldl (qB x y) f=f++eO (x+k) y cs:=by
 intro cs;induction cs with
 |nil=>intro k f;exact(List.append_nil f).symm
 |cons c cs a=>
  intro k f;simp only[fy,List.foldl_cons,a,qB,eO,Int.add_assoc];cases decide (c=35)with
  |true=>rw[List.append_assoc];rfl
  |false=>rfl
theorem fold_all(x y:Int):∀(rs:List Str) (k:Int) (f:Sp),(fy k rs).foldl (λf p=>f++eO x (y+p.1) p.2.cps.toList) f=f++eN x (y+k) rs:=by
 intro rs;induction rs with
 |nil=>intro k f;exact(List.append_nil f).symm
 |cons r rs a=>intro k f;simp only[fy,List.foldl_cons,a,eN,List.append_assoc,Int.add_assoc]
theorem uA:Str.ofString "#"=⟨#[35]⟩:=by decide+kernel
theorem ye:Str.ofString "."=⟨#[46]⟩:=by decide+kernel
theorem DF(h:c=35∨c=46):Sg ⟨#[c]⟩:=λd a=>by
 have:d=c:=by simpa using a
 exact rl this h
theorem yg(h:c=35∨c=46)(a:k=35∨k=46):Am (.str ⟨#[c]⟩) (.str ⟨#[k]⟩)=some (decide (c=k)):=by
 refine rl (yh (DF h) (DF a)) ?_
 congr 1
 exact decide_eq_decide.mpr (by simp)
theorem m4{x y:Int}{k:List Str}(P:Eb x y k):iM (n+1) 38 [kR x y k] (bj (eN x y k)):=by
 let env (r:aB):aB:=(49,.d (kR x y k))::(28,.d (.int x))::(34,.d (.int y))::(25,.d (.lst (k.map .str)))::(0,.loc 0)::r;have L:=P.len;obtain⟨⟨ρ',R⟩,e,-,w,u⟩:=cY (l:=fy 0 k) (s:=([]:Sp)) (st:=(env [],[.lst []]))
  (λf p=>f++eO x (y+p.1) p.2.cps.toList)
  (λi f st=>f.length≤5*i∧(st.1=env []∨(∃a b,st.1=env [(38,a),(50,b)])∨∃a b c d,st.1=env [(38,a),(50,b),(29,c),(51,d)])∧st.2=[.lst (f.map ofPair)]) ⟨Nat.le_refl _,.inl rfl,rfl⟩ λi f p ⟨ρ,σ⟩ E ⟨N,w,u⟩=>by
   refine aT (List.getElem?_eq_some_iff.mp E) λE Z=>?_;simp only[rz]at E;have X:p.2∈k:=by have:(p.1,p.2)∈fy 0 k:=Z▸List.getElem_mem _;exact List.mem_of_getElem? (iT.mp this).2
   refine a9 (P.row p.2 X) λK U=>?_;dsimp only at u;subst u;have A:∃r,cD [38,50] (.tup [.int p.1,.str p.2]) ρ=some (env ((38,.d (.int p.1))::(50,.d (.str p.2))::r))∧(r=[]∨∃c d,r=[(29,c),(51,d)]):=by
    rcases w with h|⟨a,b,h⟩|⟨a,b,c,d,h⟩<;>(dsimp only at h;subst h)
    ·exact⟨_,rfl,.inl rfl⟩
    ·exact⟨_,rfl,.inl rfl⟩
    ·exact⟨_,rfl,.inr (fu _ _ rfl)⟩
   refine ay A λr A I=>?_;obtain⟨⟨S,Q⟩,e,-,F,O⟩:=cY (body:=λst=>cu (SM n) ((O5.body.get 2).loop.get 0).loop st) (l:=fy 0 p.2.cps.toList) (st:=(env ((38,.d (.int p.1))::(50,.d (.str p.2))::r),[.lst (f.map ofPair)]))
    (qB x (y+p.1)) (λj g st=>g.length≤f.length+j∧(∃r,st.1=env ((38,.d (.int p.1))::(50,.d (.str p.2))::r)∧(r=[]∨∃c d,r=[(29,c),(51,d)]))∧st.2=[.lst (g.map ofPair)]) ⟨Nat.le_refl _,⟨r,rfl,I⟩,rfl⟩ λj g q ⟨ρ,σ⟩ B ⟨M,⟨r,w,I⟩,u⟩=>by
     refine aT (List.getElem?_eq_some_iff.mp B) λB Y=>?_;simp only[rz]at B;have W:q.2∈p.2.cps.toList:=by have:(q.1,q.2)∈fy 0 p.2.cps.toList:=Y▸List.getElem_mem _;exact List.mem_of_getElem? (iT.mp this).2
     dsimp only at w u;subst w u;have A:cD [29,51] (.tup [.int q.1,.str ⟨#[q.2]⟩]) (env ((38,.d (.int p.1))::(50,.d (.str p.2))::r))=some (env [(38,.d (.int p.1)),(50,.d (.str p.2)),(29,.d (.int q.1)),(51,.d (.str ⟨#[q.2]⟩))]):=by rcases I with h|⟨a,b,h⟩<;>(subst h;rfl)
     have c:=aW (C:=SM n) (o:=.eq) (a:=.var 51) (b:=.str "#") (ρ:=env [(38,.d (.int p.1)),(50,.d (.str p.2)),(29,.d (.int q.1)),(51,.d (.str ⟨#[q.2]⟩))]) (σ:=[.lst (g.map ofPair)]) rfl rfl rfl rfl (by rw[uA];exact yg (U _ W) (.inl rfl));have V:(qB x (y+p.1) g q).length≤g.length+1:=by
      unfold qB;cases decide (q.2=35)
      ·exact Nat.le_succ _
      ·rw[List.length_append];exact Nat.le_refl _
     refine(h9 _ .next (env [(38,.d (.int p.1)),(50,.d (.str p.2)),(29,.d (.int q.1)),(51,.d (.str ⟨#[q.2]⟩))],[.lst ((qB x (y+p.1) g q).map ofPair)]) ⟨A,ai ?_ aM,(λT z=>Fl.nr z),II M V,⟨[(29,.d (.int q.1)),(51,.d (.str ⟨#[q.2]⟩))],rfl,.inr (fu _ _ rfl)⟩,rfl⟩);unfold qB;cases h:decide (q.2=35)with
     |false=>rw[h]at c;exact bu c rfl aM
     |true=>rw[h]at c;refine c8 c rfl (ai (iI rfl rfl (gw (es_2 (aQ rfl rfl rfl rfl rfl) (aQ rfl rfl rfl rfl rfl)) rfl rfl) rfl (fits_of (by rw[List.length_map];exact JI L N E K M B))) ?_);simp only[List.map_append];exact aM
   obtain⟨r2,F,H⟩:=F;dsimp only at F O;subst F O;rw[Cj,Int.add_zero]at e;have G:pB (SM n) (.uf (.var 50)) (env ((38,.d (.int p.1))::(50,.d (.str p.2))::r)) [.lst (f.map ofPair)]=some ((fy 0 p.2.cps.toList).map λq:Int×Nat=>D.tup [.int q.1,.str ⟨#[q.2]⟩],[.lst (f.map ofPair)]):=
    oj rfl (congrArg some (pA (λc=>D.str ⟨#[c]⟩) p.2.cps.toList 0))
   refine(h9 _ .next _ ⟨A,ai (fW G e) aM,(λT z=>Fl.nr z),?_,?_,rfl⟩)
   ·rw[List.length_append];have:=(pq (y+p.1) p.2.cps.toList x).2.2;exact IM N K this
   ·rcases H with h|⟨c,d,h⟩<;>subst h
    ·exact .inr (.inl (fu _ _ rfl))
    ·exact .inr (.inr (jC _ _ _ _ rfl))
 dsimp only at u;subst u;simp only[fold_all,Int.add_zero]at e;have G:pB (SM n) (.uf (.var 25)) (env []) [.lst []]=some ((fy 0 k).map λp:Int×Str=>D.tup [.int p.1,.str p.2],[.lst []]):=oj rfl (congrArg some (pA D.str k 0));exact a6 rfl rfl rfl (ai (oB rfl rfl) (ai (iz rfl) (ai (fW G e) (aU (a7 (v:=.loc 0) (bY (by clear P L e G;rcases w with h|⟨a,b,h⟩|⟨a,b,c,d,h⟩<;>(dsimp only at h;subst h;rfl)))))))) rfl
theorem q9(P:Eb x y rs):iM (n+4) 39 [kR x y rs] (bU (Pd (eN x y rs))):=by have K:=sJ P;have d:=P.len;have c:=P.hy;have e:=K.len;have f:=zg (n:=n) (K.nB.mono (by decide)) (sr e) (h:=((rs.map D.str).length:Int)) (λa b h=>by rw[List.length_map];exact K.Pj a b h) (IE c) (Fg c) (Iv) (by rw[List.length_map];exact Ej d);exact a6 rfl rfl rfl (ai (oB rfl rfl) (ai (bK (bT rfl rfl (m4 P))) (aU (a7 (bT (es_3 rfl (aZ rfl rfl (eT (by rw[List.length_map];exact A9 d))) rfl) rfl f))))) rfl
theorem yY(p:Int×Int):∀ds:Sp,((ds.map ofPair).any λy=>PyData.eqv y.py (ofPair p).py)=decide (p∈ds):=by
 intro ds;induction ds with
 |nil=>rfl
 |cons q ds a=>simp only[List.map_cons,List.any_cons,a,ug,←decide_or_eq];exact decide_eq_decide.mpr (by rw[List.mem_cons];exact⟨λh=>h.imp Eq.symm id,λh=>h.imp Eq.symm id⟩)
theorem uq:∀s:Sp,b7 8 (s.map ofPair)=true:=by
 intro s;induction s with
 |nil=>rfl
 |cons p s a=>simp only[List.map_cons,b7,a];rfl
theorem pQ(p:Int×Int)(ds:Sp):gx .isin (ofPair p) (bj ds)=some (decide (p∈ds)):=bI (c:=b7 8 (ds.map ofPair)) (uq ds) (congrArg some (yY p ds))
theorem jX(p:Int×Int)(ds:Sp):gx .iW (ofPair p) (bj ds)=some (!decide (p∈ds)):=by show zW (gx .isin (ofPair p) (bj ds))=_;rw[pQ];rfl
theorem jO(a b:Bool):gx .ne (.bool a) (.bool b)=some (!decide (a=b)):=by cases a<;>cases b<;>rfl
theorem o9(P:Eb x y rs)(S:cM 8 (Pd ds)):iM (n+3) 41 [bU (Pd ds),bj ds,kR x y rs] (.bool true):=by
 have G:=j1 S (by decide);have F:=P.hx;have E:=P.hy;have t:=P.len;let env (r:aB):aB:=(37,.d (bU (Pd ds)))::(52,.d (bj ds))::(49,.d (kR x y rs))::(28,.d (.int x))::(34,.d (.int y))::(25,.d (.lst (rs.map .str)))::r;obtain⟨⟨ρ',B⟩,e,-,f⟩:=cY (s:=()) (st:=(env [],[])) (λd d=>())
  (λi d st=>(st.1=env []∨(∃a,st.1=env [(38,a)])∨∃a b,st.1=env [(38,a),(58,b)])∧st.2=[]) ⟨.inl rfl,rfl⟩ λi _ b ⟨ρ,σ⟩ H ⟨p,f⟩=>by
   dsimp only at f;subst f;have j:∃r,cD [38] (.int b) ρ=some (env ((38,.d (.int b))::r))∧(r=[]∨∃c,r=[(58,c)]):=by
    rcases p with h|⟨a,h⟩|⟨a,c,h⟩<;>(dsimp only at h;subst h)
    ·exact⟨_,rfl,.inl rfl⟩
    ·exact⟨_,rfl,.inl rfl⟩
    ·exact⟨_,rfl,.inr ⟨_,rfl⟩⟩
   refine ay j λr j o=>?_;obtain⟨⟨C,A⟩,e,⟨I,v,k⟩,u⟩:=cY (body:=λst=>cu (SM (n+2)) ((O6.body.get 1).loop.get 0).loop st) (s:=()) (st:=(env ((38,.d (.int b))::r),[])) (λd d=>())
    (λi d st=>(∃r,st.1=env ((38,.d (.int b))::r)∧(r=[]∨∃c,r=[(58,c)]))∧st.2=[]) ⟨⟨r,rfl,o⟩,rfl⟩ λi _ a ⟨ρ,σ⟩ H ⟨⟨r,p,o⟩,f⟩=>by
     subst p f;have j:cD [58] (.int a) (env ((38,.d (.int b))::r))=some (env [(38,.d (.int b)),(58,.d (.int a))]):=by rcases o with h|⟨c,h⟩<;>(subst h;rfl)
     have w:=bZ (n:=n+2) (m:=16) (g:=18) (a:=.var 37) (ρ:=env [(38,.d (.int b)),(58,.d (.int a))]) (σ:=[]) (l:=.cons (.var 58) (.cons (.var 38) .nil)) rfl rfl rfl rfl rfl (zb G a b);rw[iS S (by decide)]at w;have c:=aW w (aW (a:=.tup (.cons (.var 58) (.cons (.var 38) .nil))) (b:=.var 52) (gw (es_2 rfl rfl) rfl rfl) rfl rfl rfl (pQ (a,b) ds)) rfl rfl (jO _ _);exact(h9 _ .next (env [(38,.d (.int b)),(58,.d (.int a))],[]) ⟨j,ai (bu c (by refine rl (decide_eq_true rfl) ?_;rfl) aM) aM,(λd z=>Fl.nr z),⟨[(58,.d (.int a))],rfl,.inr ⟨_,rfl⟩⟩,rfl⟩)
   dsimp only at v u;subst v u;have q:pB (SM (n+2)) (.iH (.bin .sub (.var 28) (.int 1)) (.bin .add (.var 28) (.int 6))) (env ((38,.d (.int b))::r)) []=some ((dN (x-1) (x+6)).map D.int,[]):=
    fk (x-1) (x+6)▸it_2 (aQ rfl rfl rfl rfl rfl) (aQ rfl rfl rfl rfl rfl) (rr decide_and_eq (decide_eq_true (KV F)))
   refine(h9 _ .next _ ⟨j,ai (fW q e) aM,(λd z=>Fl.nr z),?_,rfl⟩);rcases k with h|⟨c,h⟩<;>subst h
   ·exact .inr (.inl ⟨_,rfl⟩)
   ·exact .inr (.inr (fu _ _ rfl))
 dsimp only at f;subst f;have q:pB (SM (n+2)) (.iH (.bin .sub (.var 34) (.int 1)) (.bin .add (.bin .add (.var 34) (.blt .len (.cons (.var 25) .nil))) (.int 1))) (env []) []=some ((dN (y-1) (y+((rs.map D.str).length:Int)+1)).map D.int,[]):=
  fk (y-1) (y+((rs.map D.str).length:Int)+1)▸it_2 (aQ rfl rfl rfl rfl rfl) (aQ (aQ rfl (aZ rfl rfl (eT (by rw[List.length_map];exact A9 t))) rfl rfl rfl) rfl rfl rfl rfl) (rr decide_and_eq (decide_eq_true (by rw[List.length_map];exact I6 E t)))
 exact a6 rfl rfl rfl (ai (oB rfl rfl) (ai (fW q e) (aU (a7 rfl)))) rfl
theorem MT:∀(rs:List Str) (s:Str),(rs.foldl (λx y=>x++y) s).cps.toList=s.cps.toList++rs.flatMap λr=>r.cps.toList:=by
 intro rs;induction rs with
 |nil=>intro s;exact(List.append_nil _).symm
 |cons r rs a=>
  intro s;rw[List.foldl_cons,a,List.flatMap_cons,←List.append_assoc]
  congr 1
  exact Array.toList_append
theorem MU:∀(rs:List Str) (k:Nat),(∀r∈rs,r.cps.toList.length≤5)→rs.foldl (λn s=>n+s.length) k≤k+5*rs.length:=by
 intro rs;induction rs with
 |nil=>intro k _;exact Nat.le_refl _
 |cons r rs a=>refineλk h=>rl List.foldl_cons ?_;have:=a (k+r.length) λq b=>h q (.tail _ b);have c:=h r (.head _);exact rl List.length_cons (Nat.le_trans this (Nat.le_trans (Nat.le_of_eq (Nat.add_assoc _ _ _)) (Nat.add_le_add_left (Nat.le_trans (Nat.add_le_add_right c _) (Nat.le_of_eq (Nat.add_comm 5 _))) k)))
theorem Gz:Str.ofString ""=⟨#[]⟩:=by decide+kernel
theorem Ga{rs:List Str}(P:Eb x y rs)(h:aH C a ρ σ=some (.d (.lst (rs.map .str)),σ)):∃J,aH C (.cmp .eq (.join a) (.str "")) ρ σ=some (.d (.bool J),σ)∧(J=false→∃r∈rs,r.cps.toList≠[]):=by
 have g:∀rs:List Str,(rs.map D.str).mapM Hj=some rs:=λrs=>by
  induction rs with
  |nil=>rfl
  |cons r rs i=>refine rl List.map_cons (rl List.mapM_cons ?_);refine rl i ?_;rfl
 have j:aH C (.join a) ρ σ=some (.d (.str (rs.foldl (λx y=>x++y) Str.empty)),σ):=by exact aF h (aR (yO rfl) (aR (g rs) (bI (fits_of (Nat.lt_of_le_of_lt (MU rs 0 λr d=>(P.row r d).1) (xO (Nat.le_refl _) P.len))) rfl)))
 have f:=MT rs Str.empty;refine⟨decide (rs.foldl (λx y=>x++y) Str.empty=⟨#[]⟩),aW j rfl rfl rfl ?_,λz=>?_⟩
 ·refine rl Gz ?_;refine yh (λc b=>?_) λc b=>by cases b
  rw[f]at b;rcases List.mem_append.mp b with m|m
  ·cases m
  ·exact ay (List.mem_flatMap.mp m) λr d b=>(P.row r d).2 c b
 ·refine Decidable.byContradiction λe=>?_;have e:∀r∈rs,r.cps.toList=[]:=λr d=>Decidable.byContradiction λz=>e ⟨r,d,z⟩;refine absurd ?_ (of_decide_eq_false z);have:(rs.foldl (λx y=>x++y) Str.empty).cps.toList=[]:=by refine rl f (rl (List.flatMap_eq_nil_iff.mpr e) ?_);rfl
  exact congrArg Str.mk (Array.toList_eq_nil_iff.mp this)
theorem G7{i:Nat}(h:s.cps.toList[i]? =some c)(d:s.cps.toList.length<4096):hU (.str s) (.int (i:Int))=some (.str ⟨#[c]⟩):=by
 refine aT (List.getElem?_eq_some_iff.mp h) λb e=>rfl.trans (bI (fits_of (Nat.lt_trans b d)) (aR (oh b) ?_));have:s.cps[i]? =some c:=by refine rr (Array.getElem?_toList) ?_;exact h
 refine rl (Array.getD_eq_getD_getElem?) (rl this ?_);rfl
section
variable{C:Sem}{ρ:aB}{σ:ak}{a i:T}{s:Str}{k:Nat}
theorem B9(h:aH C a ρ σ=some (.d (.str s),σ))(d:aH C i ρ σ=some (.d (.int (k:Int)),σ))(c:s.cps.toList.length<4096)(b:k≤s.cps.toList.length):aH C (.ue a i) ρ σ=some (.d (.str ⟨(s.cps.toList.take k).toArray⟩),σ):=aF (HA h) (aF (jZ d) (bI (by refine rl (fits_of c) (rl (decide_eq_true (Int.natCast_nonneg k)) ?_);refine rl (decide_eq_true (Int.ofNat_le.mpr b)) ?_;rfl) rfl))
theorem wD(h:aH C a ρ σ=some (.d (.str s),σ))(d:aH C i ρ σ=some (.d (.int (k:Int)),σ))(c:s.cps.toList.length<4096)(b:k≤s.cps.toList.length):aH C (.mj a i) ρ σ=some (.d (.str ⟨(s.cps.toList.drop k).toArray⟩),σ):=aF (HA h) (aF (jZ d) (bI (by refine rl (fits_of c) (rl (decide_eq_true (Int.natCast_nonneg k)) ?_);refine rl (decide_eq_true (Int.ofNat_le.mpr b)) ?_;rfl) rfl))
end
theorem tT(h:a.length+b.length<4096):binOp .add (.str a) (.str b)=some (.str (a++b)):=bI (fits_of h) rfl
noncomputable def rL(rs:List Str):List D:=(fy 0 rs).flatMap λp=>(dN 0 p.2.cps.toList.length).flatMap λi=>[D.tup [.int p.1,.int i]]
theorem Ag(h:d∈rL rs):∃(k i:Nat) (r:Str),d= .tup [.int (k:Int),.int (i:Int)]∧rs[k]? =some r∧i<r.cps.toList.length:=by refine ay (List.mem_flatMap.mp h) λp c h=>ay (List.mem_flatMap.mp h) λi e h=>?_;rw[List.mem_singleton]at h;refine a9 (iT.mp c) λf b=>?_;have:=cN.mp e;refine(h9 p.1.toNat i.toNat p.2 ⟨?_,by rw[Int.sub_zero]at b;exact b,JN this⟩);simp only[h,show((p.1.toNat:Nat):Int)=p.1 by exact AD f,show((i.toNat:Nat):Int)=i by exact EZ this]
theorem DO(h:∃r∈rs,r.cps.toList≠[]):rL rs≠[]:=by refine ay h λr c d=>aT (List.mem_iff_getElem.mp c) λk b=>aT b λf e=>?_;have:D.tup [.int (k:Int),.int 0]∈rL rs:=List.mem_flatMap.mpr ⟨((k:Int),r),iT.mpr ⟨Int.natCast_nonneg k,by simp only[Int.sub_zero,Int.toNat_natCast,List.getElem?_eq_getElem f,e]⟩,List.mem_flatMap.mpr ⟨0,cN.mpr ⟨Int.le_refl _,Int.natCast_pos.mpr (List.length_pos_iff.mpr d)⟩,.head _⟩⟩;intro z;replace this:=z▸this;cases this
theorem rM:∀{rs:List Str} {k:Int},(∀r∈rs,r.cps.toList.length≤5)→((fy k rs).flatMap λp=>(dN 0 p.2.cps.toList.length).flatMap λi=>[D.tup [.int p.1,.int i]]).length≤5*rs.length:=by
 intro rs;induction rs with
 |nil=>intro k _;exact Nat.le_refl _
 |cons r rs b=>
  intro k h;have d:=h r (.head _);have:=b (k:=k+1) λq c=>h q (.tail _ c);have e:((dN 0 (r.cps.toList.length:Int)).flatMap λi=>[D.tup [.int k,.int i]]).length=r.cps.toList.length:=by simp only[wL,List.length_map,dN,List.length_range,Int.sub_zero,Int.toNat_natCast]
  simp only[fy,List.flatMap_cons,List.length_append,e];exact JH d this
theorem Cf{C:Sem}(P:Eb x y rs)(h:ρ.lookup 25=some (.loc 1)):aH C (.comp [] (.tup (.cons (.var 38) (.cons (.var 29) .nil))) (.cons [38,50] (.iq 25) .nil (.cons [29] (.u7 (.blt .len (.cons (.var 50) .nil))) .nil .nil))) ρ [bM a b,.lst (rs.map .str)]=some (.d (.lst (rL rs)),[bM a b,.lst (rs.map .str)]):=by
 have n:=rM (k:=0) λr f=>(P.row r f).1;have o:=P.len;have g:=jf (C:=C) (ee:=λρ σ=>aH C (.tup (.cons (.var 38) (.cons (.var 29) .nil))) ρ σ) (xs:=[38,50]) (it:=.uf (.var 0)) (r:=.cons [29] (.u7 (.blt .len (.cons (.var 50) .nil))) .nil .nil) (yS:=[(0,.d (.lst (rs.map .str)))]) (jo:=[]) (σ:=[])
  (λp=>(dN 0 p.2.cps.toList.length).flatMap λi=>[D.tup [.int p.1,.int i]]) (oj rfl (congrArg some (pA D.str rs 0))) (λp q=>⟨[(38,.d (.int p.1)),(50,.d (.str p.2))],rfl,λacc c=>by
   have f:=List.mem_of_getElem? (iT.mp q).2;have m:=(P.row _ f).1;refine jf (λi=>[D.tup [.int p.1,.int i]]) (fk 0 _▸it_1 (aZ rfl rfl ?_) (decide_eq_true (HZ m))) (λi u=>⟨[(38,.d (.int p.1)),(50,.d (.str p.2)),(29,.d (.int i))],rfl,λacc c=>n8 rfl (by simp at c;exact rY c)⟩) c;show(match fits p.2.length with |true=>_|false=>_)=_;refine rl (fits_of (Nat.lt_of_le_of_lt m (by decide))) ?_;rfl⟩) (rl List.length_nil (xO n o))
 refine au g λl σ1 t g=>bI rfl (aR (Hx h) (aR (BI rfl) (aF (y:=[]) ?_ rfl)))
 revert g
 exact two ((oj rfl rfl).symm.trans t) id
theorem uc{x y:Int}{l:List Str}(P:Eb x y l):∃x' y' rs' a' b',(SM (n+4)).call 42 [.c (bM a b),.d (kR x y l)]=some (.d (kR x' y' rs'),[bM a' b'])∧Eb x' y' rs':=by
 refine rl (fE rfl rfl) ?_;refine fG (fz (n:=n+2) (ρ:=[(45,.loc 0),(49,.d (kR x y l))]) (τ:=[]) (a:=a) (b:=b) (e:=.int 3) rfl rfl (by decide) (by decide)) λw u t W L G=>?_;let env (r:aB):aB:=(45,.loc 0)::(49,.d (kR x y l))::(59,.d (.int w))::r;have T:=P.len;have ls:aH (SM (n+3)) (.blt .list (.cons (.sub (.var 49) (.int 2)) .nil)) (env []) [bM u t]=some (.d (.lst (l.map .str)),[bM u t]):=aZ (bf rfl rfl rfl rfl rfl) rfl (lY (by rw[List.length_map];lia));refine ay (Ga (C:=SM (n+3)) (a:=.sub (.var 49) (.int 2)) (ρ:=env []) (σ:=[bM u t]) P (bf rfl rfl rfl rfl rfl)) λJ ej hJ=>?_;have c:=or_2 (a:=.cmp .eq (.var 59) (.int 0)) (b:=.and (.cons (.cmp .eq (.var 59) (.int 1)) (.cons (.cmp .eq (.join (.sub (.var 49) (.int 2))) (.str "")) .nil))) (r:=decide (w=0)) (s:=decide (w=1)&&J) rfl λO=>dP (and_2 rfl λO=>ej);cases h0:(decide (w=0)||(decide (w=1)&&J))with
 |true=>refine(Hg x y l u t ⟨?_,P⟩);exact fC (σ:=[bM u t]) rfl (ai (bK W) (aU (c8 (fL c) h0 (aU (a7 (sN (es_3 (bf rfl rfl rfl rfl rfl) (bf rfl rfl rfl rfl rfl) ls) rfl rfl)))))) rfl
 |false=>
  have c2:aH (SM (n+3)) (.cmp .eq (.var 59) (.int 2)) (env []) [bM u t]=some (.d (.bool (decide (w=2))),[bM u t]):=rfl;by_cases I:w=2
  ·refine HO (o8 (n:=n) (a:=u) (b:=t)) λx' y' rs' E D j P'=>(Hg x' y' rs' E D ⟨?_,P'⟩);exact fC (σ:=[bM E D]) rfl (ai (bK W) (ai (bu (fL c) h0 aM) (aU (c8 c2 (decide_eq_true I) (aU (a7 (ir (es_1 rfl) (eR rfl j rfl) rfl))))))) rfl
  ·refine a9 (Bool.or_eq_false_iff.mp h0) λg0 V=>?_;have X:w=1:=by have:=of_decide_eq_false g0;exact IY L G I this
   have H:J=false:=by rw[decide_eq_true X]at V;exact V
   have ne:=DO (hJ H);have Y:=rM (k:=0) λr hr=>(P.row r hr).1;let wz (r:aB):aB:=(45,.loc 0)::(49,.d (kR x y l))::(59,.d (.int w))::(25,.loc 1)::(12,.d (.lst (rL l)))::r;refine jE (Cd (n:=n+1) (ρ:=wz []) (τ:=[.lst (l.map .str)]) (a:=u) (b:=t) (e:=.var 12) rfl rfl ne (by show List.length _<_;unfold rL;exact Fk T Y)) λd E D e2 hd=>?_;refine fG (Ag hd) λk i r N U M=>?_;clear G ls ej hJ g0 V X H ne Y hd;subst N;refine a9 (P.row r (List.mem_of_getElem? U)) λrl S=>?_;have j:=List.getElem?_eq_getElem M;have Q:=S _ (List.mem_of_getElem? j);let g:ak:=[bM E D,.lst (l.map .str)];let A:aB:=wz [(38,.d (.int (k:Int))),(29,.d (.int (i:Int)))];have R:∀ρ:aB,ρ.lookup 25=some (.loc 1)→ρ.lookup 38=some (.d (.int (k:Int)))→aH (SM (n+3)) (.sub (.var 25) (.var 38)) ρ g=some (.d (.str r),g):=λρ h1 I=>bf (bY h1) (bY I) rfl rfl (nA (by rw[List.getElem?_map,U];rfl) (by rw[List.length_map];lia));have cs:aH (SM (n+3)) (.cmp .eq (.sub (.sub (.var 25) (.var 38)) (.var 29)) (.str ".")) A g=some (.d (.bool (decide (r.cps.toList[i]=46))),g):=aW (bf (R A rfl rfl) rfl rfl rfl (G7 j (by lia))) rfl rfl rfl (by rw[ye];exact yg Q (.inr rfl));obtain⟨z,hz,ez⟩:∃z,(z=35∨z=46)∧aH (SM (n+3)) (.Nx (.cmp .eq (.sub (.sub (.var 25) (.var 38)) (.var 29)) (.str ".")) (.str "#") (.str ".")) A g=some (.d (.str ⟨#[z]⟩),g):=by
    cases h:decide (r.cps.toList[i]=46)with
    |true=>rw[h]at cs;exact⟨35,.inl rfl,Cb cs (λO=>by refine rr uA ?_;rfl) λz=>tf z⟩
    |false=>rw[h]at cs;exact⟨46,.inr rfl,Cb cs (λz=>ft z) λO=>by refine rr ye ?_;rfl⟩
   let o:aB:=wz [(38,.d (.int (k:Int))),(29,.d (.int (i:Int))),(51,.d (.str ⟨#[z]⟩))];let F:Str:=(⟨(r.cps.toList.take i).toArray⟩++⟨#[z]⟩:Str)++⟨(r.cps.toList.drop (i+1)).toArray⟩;have Z:F.cps.toList=r.cps.toList.take i++[z]++r.cps.toList.drop (i+1):=by show((((r.cps.toList.take i).toArray++#[z])++(r.cps.toList.drop (i+1)).toArray:Array Nat)).toList=_;rw[Array.toList_append,Array.toList_append]
   have L:(r.cps.toList.take i).length≤5:=by rw[List.length_take];exact LD rl
   have l2:(r.cps.toList.drop (i+1)).length≤5:=by rw[List.length_drop];exact H7 rl
   have er:aH (SM (n+3)) (.bin .add (.bin .add (.ue (.sub (.var 25) (.var 38)) (.var 29)) (.var 51)) (.mj (.sub (.var 25) (.var 38)) (.bin .add (.var 29) (.int 1)))) o g=some (.d (.str F),g):=by
    refine aQ (aQ (B9 (R o rfl rfl) rfl (by lia) (Bb M)) rfl rfl rfl (tT ?_)) (wD (k:=i+1) (R o rfl rfl) (aQ rfl rfl rfl rfl rfl) (by lia) (vV M)) rfl rfl (tT ?_)
    ·exact ES L
    ·show(((r.cps.toList.take i).toArray++#[z]:Array Nat)).size+(r.cps.toList.drop (i+1)).length<4096;rw[Array.size_append];exact E9 L l2
   have kl:=(List.getElem?_eq_some_iff.mp U).1;refine(Hg x y (l.set k F) E D ⟨?_,⟨P.hx,P.hy,by rw[List.length_set];exact T,λq hq=>?_⟩⟩)
   ·refine fC (σ:=[bM E D,.eE (.lst ((l.set k F).map .str))]) (v:=.d (kR x y (l.set k F))) rfl (ai (bK W) (ai (bu (fL c) h0 aM) (ai (bu c2 (decide_eq_false I) aM) (ai (iz (σ1:=[bM u t]) ?_) (ai (bK (Cf P rfl)) (ai (oB (ρ':=A) e2 rfl) (ai (bK ez) (ai (st':=(o,[bM E D,.lst ((l.set k F).map .str)])) ?_ (aU (a7 (sN (es_3 (bf rfl rfl rfl rfl rfl) (bf rfl rfl rfl rfl rfl) rfl) rfl rfl))))))))))) rfl
    ·exact aF (bf rfl rfl rfl rfl rfl) (aR (yO rfl) (bI (fits_of (by rw[List.length_map];lia)) rfl))
    ·show fZ (SM (n+3)) _ (o,g)=_;exact aF (qT er) (aF (yp rfl) (aF (jZ rfl) (aR rfl (aR (aR (oh (by rw[List.length_map];exact kl)) (bI (fits_of (Kd T kl)) rfl)) (by rw[List.map_set];rfl)))))
   ·refine Or.elim (List.mem_or_eq_of_mem_set hq) (λm=>?_) λm=>?_
    ·exact P.row q m
    ·rw[m];refine⟨by simp only[Z,List.length_append,List.length_take,List.length_drop];exact IX M rl,λc j=>?_⟩;rw[Z]at j;refine Or.elim (List.mem_append.mp j) (λj=>?_) λj=>?_
     ·rcases List.mem_append.mp j with j|j
      ·exact S c (List.mem_of_mem_take j)
      ·rw[List.mem_singleton]at j;rw[j];exact hz
     ·exact S c (List.mem_of_mem_drop j)
theorem Mb(S:cM 20 R):hs (gP R)=[]↔∀x y,R x y=false:=by
 have G:=j1 S (Int.le_refl _);constructor
 ·intro h x y;cases e:R x y with
  |false=>rfl
  |true=>
   have:y∈hs (gP R):=(dH G.nB).mpr λz=>by have:=iS S (Int.le_refl _) x y;rw[z,e]at this;exact ft this
   replace this:=h▸this;cases this
 ·exactλh=>List.eq_nil_iff_forall_not_mem.mpr λy a=>(dH G.nB).mp a (Ds λx=>h x y)
theorem CP{R:Int→Int→Bool}(h:∀x y,(x,y)∈l↔R x y=true):l=[]↔∀x y,R x y=false:=by
 rw[List.eq_nil_iff_forall_not_mem];constructor
 ·intro z x y;rw[Bool.eq_false_iff];exactλe=>z (x,y) ((h x y).mpr e)
 ·intro z p a;have:=(h p.1 p.2).mp a;rw[z]at this;exact ft this
theorem qi(S:cM 20 R)(h:∀x y,(x,y)∈l↔R x y=true):decide (hs (gP R)=[])=decide (l=[]):=
 decide_eq_decide.mpr ((Mb S).trans (CP h).symm)
theorem iG:Pd ds x y=true↔(x,y)∈ds:=decide_eq_true_iff
theorem mo(h:bH (SM (n+3)) (.cons a (.cons b .nil)) ρ σ=some ([.d (bU R),.d (bj ds)],σ1))(S:cM 8 R)(c:ds.Nodup)(d:∀x y,(x,y)∈ds↔R x y=true)(e:ds.length<64):aH (SM (n+3)) (.call 40 (.cons a (.cons b .nil))) ρ σ=some (.d (.bool true),σ1):=
 bT (ds:=[_,_]) h rfl (ya (j1 S (by decide)) (BZ S c d e))
theorem not_true(h:aH C a ρ σ=some (.d (.bool true),σ1)):aH C (.not a) ρ σ=some (.d (.bool false),σ1):=wF h
theorem zc{e d:Sp}(S1:cM 7 (Pd e))(S2:cM 7 (Pd d))(T:e.Nodup)(n2:d.Nodup)(U:e.length≤20)(l2:d.length≤20):iM (n+8) 43 [bU (Pd e),bU (Pd d),bj e,bj d] (.bool true):=by
 have s:cM 20 (Pd e):=S1.mono (by decide);have f:cM 20 (Pd d):=S2.mono (by decide);have G1:=j1 s (Int.le_refl _);have G2:=j1 f (Int.le_refl _);let B:=e.filter λp=>decide (p∈d);let E:=e.filter λp=>!decide (p∈d);let I:=d.filter λp=>!decide (p∈e);have N:∀x y,(x,y)∈B↔qN (Pd e x y) (Pd d x y)=true:=λx y=>by rw[List.mem_filter,Bool.and_eq_true,iG,iG]
 have G:∀x y,(x,y)∈E↔q5 (Pd e x y) (Pd d x y)=true:=λx y=>by rw[List.mem_filter,Bool.and_eq_true,iG]
 have F:∀x y,(x,y)∈I↔q5 (Pd d x y) (Pd e x y)=true:=λx y=>by rw[List.mem_filter,Bool.and_eq_true,iG]
 have Sm:∀x y,(x,y)∈e++I↔OM (Pd e x y) (Pd d x y)=true:=λx y=>by
  rw[List.mem_append,F,Bool.or_eq_true,Bool.and_eq_true,iG];cases h:Pd e x y with
  |true=>exact⟨λv=>.inl rfl,λv=>.inl (iG.mp h)⟩
  |false=>exact⟨λz=>z.elim (λm=>by rw[iG.mpr m]at h;exact tf h) λm=>.inr m.1,λz=>z.elim (λm=>ft m) λm=>.inr ⟨m,rfl⟩⟩
 have Sn:∀x y,(x,y)∈E++I↔HT (Pd e x y) (Pd d x y)=true:=λx y=>by rw[List.mem_append,G,F];cases Pd e x y<;>cases Pd d x y<;>decide
 have Z:B.Nodup:=T.sublist List.filter_sublist;have M:E.Nodup:=T.sublist List.filter_sublist;have L:I.Nodup:=n2.sublist List.filter_sublist;have Sl:B.length≤20:=Nat.le_trans (List.length_filter_le _ _) U;have H:E.length≤20:=Nat.le_trans (List.length_filter_le _ _) U;have w:I.length≤20:=Nat.le_trans (List.length_filter_le _ _) l2;have Y:=List.nodup_append.mpr ⟨T,L,λp hp q hq z=>by
  have:=(List.mem_filter.mp hq).2;replace this:=z.symm▸this;replace this:=(decide_eq_true hp)▸this;cases this⟩
 have X:=List.nodup_append.mpr ⟨M,L,λp hp q hq z=>by
  have:=(List.mem_filter.mp hq).2;replace this:=z.symm▸this;replace this:=(decide_eq_true (List.mem_filter.mp hp).1)▸this;cases this⟩
 let t:aB:=[(1,.d (bU (Pd e))),(5,.d (bU (Pd d))),(61,.d (bj e)),(62,.d (bj d))];let ρ:aB:=[(1,.d (bU (Pd e))),(5,.d (bU (Pd d))),(61,.d (bj e)),(62,.d (bj d)),(60,.d (bj B)),(63,.d (bj E)),(64,.d (bj I))];have a1:fZ (SM (n+7)) (Nm.body.get 0) (t,[])=some (.next,(t++[(60,.d (bj B))],[])):=
  bK (je (λp=>decide (p∈d)) ofPair (λv z=>It.oe z) (dK rfl rfl) (λp v=>⟨[(62,.d (bj d)),(10,.d (ofPair p))],rfl,by
   have c:=aW (C:=SM (n+7)) (a:=.var 10) (b:=.var 62) (ρ:=[(62,.d (bj d)),(10,.d (ofPair p))]) (σ:=[]) rfl rfl rfl rfl (pQ p d);cases h:decide (p∈d)<;>rw[h]at c
   ·exact gX c
   ·exact ii c and_nil,λv=>rfl⟩) (by lia))
 have a2:fZ (SM (n+7)) (Nm.body.get 1) (t++[(60,.d (bj B))],[])=some (.next,(t++[(60,.d (bj B)),(63,.d (bj E))],[])):=
  bK (je (λp=>!decide (p∈d)) ofPair (λv z=>It.oe z) (dK rfl rfl) (λp v=>⟨[(62,.d (bj d)),(10,.d (ofPair p))],rfl,by
   have c:=aW (C:=SM (n+7)) (a:=.var 10) (b:=.var 62) (ρ:=[(62,.d (bj d)),(10,.d (ofPair p))]) (σ:=[]) rfl rfl rfl rfl (jX p d);cases h:(!decide (p∈d))<;>rw[h]at c
   ·exact gX c
   ·exact ii c and_nil,λv=>rfl⟩) (by lia))
 have a3:fZ (SM (n+7)) (Nm.body.get 2) (t++[(60,.d (bj B)),(63,.d (bj E))],[])=some (.next,(ρ,[])):=
  bK (je (λp=>!decide (p∈e)) ofPair (λv z=>It.oe z) (dK rfl rfl) (λp v=>⟨[(61,.d (bj e)),(10,.d (ofPair p))],rfl,by
   have c:=aW (C:=SM (n+7)) (a:=.var 10) (b:=.var 61) (ρ:=[(61,.d (bj e)),(10,.d (ofPair p))]) (σ:=[]) rfl rfl rfl rfl (jX p e);cases h:(!decide (p∈e))<;>rw[h]at c
   ·exact gX c
   ·exact ii c and_nil,λv=>rfl⟩) (by lia))
 have u:∀{o:HH} {k:Nat} {l:Sp} {r:Bool},ρ.lookup k=some (.d (bj l))→gx o (bj l) (.lst [])=some r→aH (SM (n+7)) (.cmp o (.var k) (.lst .nil)) ρ []=some (.d (.bool r),[]):=λP O=>aW (bY P) rfl rfl rfl O;have Q:∀l:Sp,gx .eq (bj l) (.lst [])=some (decide (l=[])):=λl=>jP l [];have c1:aH (SM (n+7)) (.or (.cons (.cmp .ne (.di 65 (.var 1) (.cons (.var 5) .nil)) (.cmp .eq (.blt .sorted (.cons (.var 61) .nil)) (.blt .sorted (.cons (.var 62) .nil)))) (.cons (.cmp .ne (.call 32 (.cons (.var 1) (.cons (.var 5) .nil))) (.cmp .ne (.var 60) (.lst .nil))) .nil))) ρ []=some (.d (.bool false),[]):=by
  refine ay (m5 (n:=n+6) G1 G2) λb hb hi=>?_;have R:=bZ (n:=n+7) (m:=65) (g:=21) (a:=.var 1) (ρ:=ρ) (σ:=[]) (l:=.cons (.var 5) .nil) (ds:=[bU (Pd d)]) rfl rfl rfl rfl rfl hb;have V:=aW (C:=SM (n+7)) (o:=.eq) (ρ:=ρ) (σ:=[]) (aZ (a:=.var 61) rfl rfl (fF (iY (by lia)))) (aZ (a:=.var 62) rfl rfl (fF (iY (by lia)))) rfl rfl (jP (cy b9 e) (cy b9 d));have J:b=decide (cy b9 e=cy b9 d):=by
   rw[Bool.eq_iff_iff,hi,decide_eq_true_eq];constructor
   ·refineλh=>jR ((cE e).trans ((List.perm_ext_iff_of_nodup T n2).mpr λp=>?_)) (mK e);have:=iS s (Int.le_refl _) p.1 p.2;rw[h,iS f (Int.le_refl _)]at this;exact(decide_eq_decide.mp this).symm
   ·refineλh y=>congrArg row (funext λx=>decide_eq_decide.mpr ?_);rw[←(cE e).mem_iff,h,(cE d).mem_iff]
  rw[J]at R;have e3:=bT (n:=n+7) (l:=.cons (.var 1) (.cons (.var 5) .nil)) (ρ:=ρ) (σ:=[]) rfl rfl (wj s f);rw[qi (j6 rfl s f) N]at e3;have e4:=u (k:=60) rfl (ne_nil B);exact fL (iX (aW R V rfl rfl (by rw[jO,decide_eq_true rfl];rfl)) (iX (aW e3 e4 rfl rfl (by rw[jO,decide_eq_true rfl];rfl)) or_nil))
 have c2:aH (SM (n+7)) (.or (.cons (.cmp .ne (.call 31 (.cons (.var 1) (.cons (.var 5) .nil))) (.cmp .eq (.var 63) (.lst .nil))) (.cons (.cmp .ne (.call 31 (.cons (.var 5) (.cons (.var 1) .nil))) (.cmp .eq (.var 64) (.lst .nil))) .nil))) ρ []=some (.d (.bool false),[]):=by have R:=bT (n:=n+7) (l:=.cons (.var 1) (.cons (.var 5) .nil)) (ρ:=ρ) (σ:=[]) rfl rfl (nI s f);have V:=bT (n:=n+7) (l:=.cons (.var 5) (.cons (.var 1) .nil)) (ρ:=ρ) (σ:=[]) rfl rfl (nI f s);rw[qi (j6 rfl s f) G]at R;rw[qi (j6 rfl f s) F]at V;exact fL (iX (aW R (u rfl (Q E)) rfl rfl (by rw[jO,decide_eq_true rfl];rfl)) (iX (aW V (u rfl (Q I)) rfl rfl (by rw[jO,decide_eq_true rfl];rfl)) or_nil))
 have S:∀{i j:Nat} {l m:Sp},ρ.lookup i=some (.d (bj l))→ρ.lookup j=some (.d (bj m))→l.length≤20→m.length≤20→aH (SM (n+7)) (.bin .add (.var i) (.var j)) ρ []=some (.d (bj (l++m)),[]):=λP O h3 h4=>aQ (bY P) (bY O) rfl rfl (yW (Ey h3 h4));have A:∀{g:Nat} {x:D},(SM (n+7)).cg g=[false,false]→iM (n+7) g [bU (Pd e),bU (Pd d)] x→aH (SM (n+7)) (.call g (.cons (.var 1) (.cons (.var 5) .nil))) ρ []=some (.d x,[]):=λP O=>bT (ds:=[_,_]) rfl P O;have W:∀{K:Bool→Bool→Bool},K false false=false→cM 8 λx y=>K (Pd e x y) (Pd d x y):=λh0=>j6 h0 (S1.mono (by decide)) (S2.mono (by decide));have i1:=mo (es_2 (A rfl (ua s f)) (S (i:=61) (j:=64) rfl rfl U w)) (W rfl) Y Sm (rl List.length_append (xP U w));have i2:=mo (es_2 (A rfl (jc s f)) (bY (k:=60) rfl)) (W rfl) Z N (sr Sl);have i3:=mo (es_2 (A rfl (lu s f)) (bY (k:=63) rfl)) (W rfl) M G (sr H);have i4:=mo (es_2 (A rfl (zh s f)) (S (i:=63) (j:=64) rfl rfl H w)) (W rfl) X Sn (rl List.length_append (xP H w));exact a6 rfl rfl rfl (ai a1 (ai a2 (ai a3 (ai (bu c1 rfl aM) (ai (bu c2 rfl aM) (ai (bu (fL (iX (not_true i1) (iX (not_true i2) or_nil))) rfl aM) (aU (a7 (dP (ii i3 (ii i4 and_nil))))))))))) rfl
theorem F9(f:Int×Int→Int×Int)(h:ρ.lookup k=some (.d (bj ds)))(b:ds.length<64)
  (a:∀p,p∈ds→∃ρ',cD [53,54] (ofPair p) (ρ.filter λq=>ck.contains q.1)=some ρ'∧aH C e ρ' σ=some (.d (ofPair (f p)),σ)):aH C (.comp ck e (.cons [53,54] (.of (.var k)) .nil .nil)) ρ σ=some (.d (bj (ds.map f)),σ):=by
 have:=comp_map (λp=>ofPair (f p)) (λc z=>It.oe z) (dK (bY h) rfl) a (i8 b);replace this:=(show ds.map (λp=>ofPair (f p))=(ds.map f).map ofPair by refine rl List.map_map ?_;rfl)▸this;exact this
theorem zU{f:Int×Int→Int×Int}{ds:Sp}(n:ds.Nodup)(h:∀p q,f p=f q→p=q):(ds.map f).Nodup:=List.pairwise_map.mpr (n.imp λa e=>a (h _ _ e))
theorem w7{l t w h:Int}(N: -4≤l)(M:l≤4)(K: -4≤t)(J:t≤4)(E:0≤w)(D:w≤4)(O:0≤h)(B:h≤4)
  (j:ρ.lookup 34=some (.d (.int t)))(k:ρ.lookup 33=some (.d (.int h)))(I:(ρ.filter λp=>[28,32].contains p.1)=[(28,.d (.int l)),(32,.d (.int w))]):
  ∃ds:Sp,aH (SM n) (.comp [28,32] (.tup (.cons (.var 53) (.cons (.var 54) .nil))) (.cons [54] (.iH (.var 34) (.bin .add (.var 34) (.var 33))) .nil (.cons [53] (.iH (.var 28) (.bin .add (.var 28) (.var 32))) .nil .nil))) ρ σ=some (.d (bj ds),σ)∧ds.Nodup∧(∀x y,(x,y)∈ds↔lh l t w h x y=true)∧ds.length<64:=by
 have v:∀{a b:Int},(dN a b).length=(b-a).toNat:=λ{a b}=>by simp only[dN,List.length_map,List.length_range]
 let ds:Sp:=(dN t (t+h)).flatMap λy=>(dN l (l+w)).map λx=>(x,y);have e:((dN t (t+h)).flatMap λy=>(dN l (l+w)).flatMap λx=>[ofPair (x,y)])=ds.map ofPair:=by refine rl List.map_flatMap ?_;refine congrArg (λf=>(dN t (t+h)).flatMap f) (funext λy=>?_);exact rl List.map_map (wL _ _)
 have m:∀(L:List Int),(L.flatMap λy=>(dN l (l+w)).map λx=>(x,y)).length=L.length*w.toNat:=λL=>by
  induction L with
  |nil=>rw[List.length_nil,Nat.zero_mul];rfl
  |cons y L Q=>simp only[List.flatMap_cons,List.length_append,Q,List.length_map,v,List.length_cons,Nat.succ_mul,show(l+w-l).toNat=w.toNat by exact Bh,Nat.add_comm]
 have P:ds.length≤16:=by refine rl (m _) (rl v ?_);refine rl Bh ?_;exact Nat.mul_le_mul (Int.toNat_le.mpr B) (Int.toNat_le.mpr D)
 refine⟨ds,?_,?_,λx y=>?_,Nat.lt_of_le_of_lt P (by decide)⟩
 ·have:=jf (C:=SM n) (ee:=λρ σ=>aH (SM n) (.tup (.cons (.var 53) (.cons (.var 54) .nil))) ρ σ) (xs:=[54]) (it:=.iH (.var 34) (.bin .add (.var 34) (.var 33))) (r:=.cons [53] (.iH (.var 28) (.bin .add (.var 28) (.var 32))) .nil .nil) (jo:=ρ.filter λp=>[28,32].contains p.1) (σ:=σ) (acc:=[])
   (λy=>(dN l (l+w)).flatMap λx=>[ofPair (x,y)]) (fk t (t+h)▸it_2 (bY j) (aQ (bY j) (bY k) rfl rfl rfl) (rr decide_and_eq (decide_eq_true (vO K J O B)))) (λy g=>⟨[(28,.d (.int l)),(32,.d (.int w)),(54,.d (.int y))],by refine rl I ?_;rfl,λacc c=>
    jf (λx=>[ofPair (x,y)]) (fk l (l+w)▸it_2 rfl (aQ rfl rfl rfl rfl rfl) (rr decide_and_eq (decide_eq_true (vO N M E D)))) (λx g=>⟨[(28,.d (.int l)),(32,.d (.int w)),(54,.d (.int y)),(53,.d (.int x))],rfl,λacc c=>n8 rfl (by simp at c;exact rY c)⟩) c⟩) (by simp only[e,List.length_map,List.length_nil];exact Nat.lt_of_le_of_lt (Nat.le_trans (Nat.le_of_eq (Nat.zero_add _)) P) (by decide))
  rw[e]at this;exact n9 (λg z=>It.re z) this
 ·refine List.pairwise_flatMap.mpr ⟨λy g=>List.pairwise_map.mpr ((cS (gT _ _)).imp λT z=>T (Prod.mk.inj z).1),(gT _ _).imp λ{a b} A p G q F z=>?_⟩;refine ay (List.mem_map.mp G) λg g i=>?_;subst i;refine ay (List.mem_map.mp F) λg g i=>?_;clear F G g;subst i;exact Int.ne_of_lt A (Prod.mk.inj z).2
 ·rw[lZ,List.mem_flatMap];constructor
  ·intro u;refine ay u λb U H=>?_;refine ay (List.mem_map.mp H) λa V z=>?_;clear N M K J E D O B j k I v e m P H;cases z;exact⟨cN.mp V,cN.mp U⟩
  ·intro u;refine a9 u λS R=>?_;exact⟨y,cN.mpr R,List.mem_map.mpr ⟨x,cN.mpr S,rfl⟩⟩
noncomputable def iQ(ds:Sp)(p:Int×Int):Sp:=[(p.1+1,p.2),(p.1-1,p.2),(p.1,p.2+1),(p.1,p.2-1)].filter λq=>!decide (q∈ds)
theorem zN:(x,y)∈ds.filter (λp=>!decide (iQ ds p=[]))↔Prim (Pd ds) x y=true:=by
 have e:iQ ds (x,y)=[]↔((((x+1,y)∈ds∧(x-1,y)∈ds)∧(x,y+1)∈ds)∧(x,y-1)∈ds):=by
  rw[iQ,List.filter_eq_nil_iff];constructor
  ·intro h;have h':∀q∈[(x+1,y),(x-1,y),(x,y+1),(x,y-1)],q∈ds:=λq b=>by
    have:=h q b;cases z:decide (q∈ds)with
    |true=>exact of_decide_eq_true z
    |false=>rw[z]at this;exact absurd rfl this
   exact⟨⟨⟨h' _ (.head _),h' _ (.tail _ (.head _))⟩,h' _ (.tail _ (.tail _ (.head _)))⟩,h' _ (.tail _ (.tail _ (.tail _ (.head _))))⟩
  ·intro i q b;refine a9 i λa c=>a9 a λa d=>a9 a λg f=>?_;have:q∈ds:=by simp only[List.mem_cons,List.not_mem_nil,or_false]at b;rcases b with z|z|z|z<;>(refine rl z ?_;assumption)
   exact rl (decide_eq_true this) Bool.false_ne_true
 rw[List.mem_filter,Bool.not_eq_true',decide_eq_false_iff_not,e];unfold Prim;simp only[Int.sub_zero];show _↔(decide ((x,y)∈ds)&& !((((decide ((x,y)∈ds)&&decide ((x-1,y)∈ds))&&decide ((x+1,y)∈ds))&&decide ((x,y-1)∈ds))&&decide ((x,y+1)∈ds)))=true;by_cases h:(x,y)∈ds<;>by_cases g:(x+1,y)∈ds<;>by_cases f:(x-1,y)∈ds<;>by_cases d:(x,y+1)∈ds<;>by_cases c:(x,y-1)∈ds<;>simp[h,g,f,d,c]
theorem wg{n:Nat}{a b:Int}{ds:Sp}(S:cM 7 (Pd ds))(nd:ds.Nodup)(hl:ds.length≤20):∃a' b',(SM (n+8)).call 44 [.c (bM a b),.d (bU (Pd ds)),.d (bj ds)]=some (.d (.bool true),[bM a' b']):=by
 rw[fE rfl rfl];have H:cM 8 (Pd ds):=S.mono (by decide);let env (r:aB):aB:=(45,.loc 0)::(37,.d (bU (Pd ds)))::(52,.d (bj ds))::r;obtain⟨u,a1,b1,e1,Z,SR⟩:=fz (n:=n+6) (ρ:=env []) (τ:=[]) (a:=a) (b:=b) (e:=.int 3) rfl rfl (by decide) (by decide);obtain⟨v,U,T,e2,Y,SS⟩:=fz (n:=n+6) (ρ:=env []) (τ:=[]) (a:=a1) (b:=b1) (e:=.int 3) rfl rfl (by decide) (by decide);let F7 (r:aB):aB:=env ((29,.d (.int (u-1)))::(38,.d (.int (v-1)))::r);obtain⟨p,a3,b3,e3,X,I⟩:=fz (n:=n+6) (ρ:=F7 []) (τ:=[]) (a:=U) (b:=T) (e:=.int 6) rfl rfl (by decide) (by decide);obtain⟨q,a4,b4,e4,R,SV⟩:=fz (n:=n+6) (ρ:=F7 []) (τ:=[]) (a:=a3) (b:=b3) (e:=.int 5) rfl rfl (by decide) (by decide);let wz (r:aB):aB:=F7 ((28,.d (.int (p-3)))::(34,.d (.int (q-2)))::r);obtain⟨w,a5,b5,e5,W,SX⟩:=fz (n:=n+6) (ρ:=wz []) (τ:=[]) (a:=a4) (b:=b4) (e:=.int 5) rfl rfl (by decide) (by decide);obtain⟨h,A,j,e6,V,SY⟩:=fz (n:=n+6) (ρ:=wz []) (τ:=[]) (a:=a5) (b:=b5) (e:=.int 5) rfl rfl (by decide) (by decide);let L0 (r:aB):aB:=wz ((32,.d (.int w))::(33,.d (.int h))::r);have s1:aH (SM (n+7)) (.not (.call 40 (.cons (.call 29 (.cons (.var 37) (.cons (.var 29) (.cons (.var 38) .nil)))) (.cons (.comp [29,38] (.tup (.cons (.bin .add (.var 53) (.var 29)) (.cons (.bin .add (.var 54) (.var 38)) .nil))) (.cons [53,54] (.of (.var 52)) .nil .nil)) .nil)))) (F7 []) [bM U T]=some (.d (.bool false),[bM U T]):=by
  refine not_true (mo (n:=n+4) (es_2 (bT (ds:=[_,_,_]) rfl rfl (nK (n:=n+5) (dx:=u-1) (dy:=v-1) H (by exact sj Z) (by lia) (by exact sj Y) (by lia))) (F9 (λp=>(p.1+(u-1),p.2+(v-1))) rfl (by lia) λp D=>⟨[(29,.d (.int (u-1))),(38,.d (.int (v-1))),(53,.d (.int p.1)),(54,.d (.int p.2))],rfl,gw (es_2 (aQ rfl rfl rfl rfl rfl) (aQ rfl rfl rfl rfl rfl)) rfl rfl⟩)) (sZ S (by exact sj Z) (by lia) (by exact sj Y) (by lia)) (zU nd λp q e=>?_) (λx y=>?_) (by rw[List.length_map];lia))
  ·obtain⟨N,M⟩:=Prod.mk.inj e;exact Prod.ext (by exact A5 N) (by exact A5 M)
  ·rw[List.mem_map];constructor
   ·intro⟨p,hp,z⟩;obtain⟨N,M⟩:=Prod.mk.inj z;exact decide_eq_true (by rw[show x-(u-1)=p.1 by exact xN N,show y-(v-1)=p.2 by exact xN M];exact hp)
   ·intro z;exact⟨_,of_decide_eq_true z,Prod.ext (by dsimp only;lia) (by dsimp only;lia)⟩
 let J:Sp:=ds.filter λd=>lh (p-3) (q-2) w h d.1 d.2;let F8 (r:aB):aB:=L0 ((66,.d (bj J))::r);have s2:fZ (SM (n+7)) (Ob.body.get 4) (L0 [],[bM A j])=some (.next,(F8 [],[bM A j])):=by
  have:=je (C:=SM (n+7)) (ρ:=L0 []) (σ:=[bM A j]) (ck:=[28,34,32,33]) (e:=.tup (.cons (.var 53) (.cons (.var 54) .nil))) (xs:=[53,54]) (it:=.of (.var 52)) (ifs:=.cons (.and (.cons (.ud .le .lt (.var 28) (.var 53) (.bin .add (.var 28) (.var 32))) (.cons (.ud .le .lt (.var 34) (.var 54) (.bin .add (.var 34) (.var 33))) .nil))) .nil) (enc:=ofPair) (m:=ds) (λd=>lh (p-3) (q-2) w h d.1 d.2) ofPair (λD z=>by exact It.oe z) (dK rfl rfl) (λd D=>⟨[(28,.d (.int (p-3))),(34,.d (.int (q-2))),(32,.d (.int w)),(33,.d (.int h)),(53,.d (.int d.1)),(54,.d (.int d.2))],rfl,by
   have c:=dP (and_2 (C:=SM (n+7)) (ρ:=[(28,.d (.int (p-3))),(34,.d (.int (q-2))),(32,.d (.int w)),(33,.d (.int h)),(53,.d (.int d.1)),(54,.d (.int d.2))]) (σ:=[bM A j]) (sL (o1:=.le) (o2:=.lt) (a:=.var 28) (b:=.var 53) (c:=.bin .add (.var 28) (.var 32)) rfl rfl (r:=decide (p-3≤d.1)) rfl (aQ rfl rfl rfl rfl rfl) (s:=decide (d.1<p-3+w)) rfl) λD=>sL (o1:=.le) (o2:=.lt) (a:=.var 34) (b:=.var 54) (c:=.bin .add (.var 34) (.var 33)) rfl rfl (r:=decide (q-2≤d.2)) rfl (aQ rfl rfl rfl rfl rfl) (s:=decide (d.2<q-2+h)) rfl);cases K:lh (p-3) (q-2) w h d.1 d.2<;>rw[show(decide (p-3≤d.1)&&decide (d.1<p-3+w)&&(decide (q-2≤d.2)&&decide (d.2<q-2+h)))=_ from K]at c
   ·exact gX c
   ·exact ii c and_nil,λD=>rfl⟩) (by exact E8 hl)
  exact bK this
 have s3:aH (SM (n+7)) (.not (.call 40 (.cons (.call 30 (.cons (.var 37) (.cons (.var 28) (.cons (.var 34) (.cons (.var 32) (.cons (.var 33) .nil)))))) (.cons (.var 66) .nil)))) (F8 []) [bM A j]=some (.d (.bool false),[bM A j]):=by refine not_true (mo (n:=n+4) (es_2 (bT (ds:=[_,_,_,_,_]) rfl rfl (ze (n:=n+1) (l:=p-3) (t:=q-2) (w:=w) (h:=h) H (by lia) (by lia) (by assumption) (by lia) (by assumption))) (bY rfl)) (λx y e=>H x y (Bool.and_eq_true_iff.mp e).1) (nd.sublist List.filter_sublist) (λx y=>?_) (Nat.lt_of_le_of_lt (List.length_filter_le _ _) (by lia)));rw[List.mem_filter,←iG (ds:=ds)];exact Bool.and_eq_true_iff.symm
 refine rS (w7 (n:=n+7) (ρ:=F8 []) (σ:=[bM A j]) (l:=p-3) (t:=q-2) (w:=w) (h:=h) (by lia) (by lia) (by exact vR R) (by lia) W (by lia) V (by lia) rfl rfl rfl) λF s4 nw mw lw=>?_;let wA (r:aB):aB:=F8 ((67,.d (bj F))::r);have s5:aH (SM (n+7)) (.not (.call 40 (.cons (.call 22 (.cons (.var 28) (.cons (.var 34) (.cons (.var 32) (.cons (.var 33) .nil))))) (.cons (.var 67) .nil)))) (wA []) [bM A j]=some (.d (.bool false),[bM A j]):=
  not_true (mo (n:=n+4) (es_2 (bT (ds:=[_,_,_,_]) rfl rfl (zf (n:=n+5) (l:=p-3) (t:=q-2) (w:=w) (h:=h) (by exact AV X) (by exact xJ I) (by exact vR R) (by lia) W (by lia) V (by lia))) (bY rfl)) (xZ (by exact AV X) (by exact xJ I) (by exact vR R) (by lia) (by lia) (by lia)) nw mw lw)
 obtain⟨⟨ρ',σ'⟩,e,-,L,G⟩:=cY (ks:=[53,54]) (body:=λst=>cu (SM (n+7)) (Ob.body.get 9).loop st) (enc:=ofPair) (l:=ds) (s:=([]:Sp)) (st:=(wA [(68,.loc 1)],[bM A j,.lst []])) (λf d=>match !decide (iQ ds d=[])with |true=>f++[d]|false=>f)
  (λi f st=>f.length≤i∧(st.1=wA [(68,.loc 1)]∨∃a b,st.1=wA [(68,.loc 1),(53,a),(54,b)])∧st.2=[bM A j,.lst (f.map ofPair)]) ⟨Nat.le_refl _,.inl rfl,rfl⟩ λi f d ⟨ρ,σ⟩ hi ⟨hf,L,G⟩=>by
   have hi:=(List.getElem?_eq_some_iff.mp hi).1;have K:cD [53,54] (ofPair d) ρ=some (wA [(68,.loc 1),(53,.d (.int d.1)),(54,.d (.int d.2))]):=by rcases L with h|⟨a,b,h⟩<;>(dsimp only at h;subst h;rfl)
   dsimp only at G;subst G;have cm:=je (C:=SM (n+7)) (ρ:=wA [(68,.loc 1),(53,.d (.int d.1)),(54,.d (.int d.2))]) (σ:=[bM A j,.lst (f.map ofPair)]) (ck:=[52]) (e:=.var 6) (xs:=[6]) (it:=.of (.lst (.cons (.tup (.cons (.bin .add (.var 53) (.int 1)) (.cons (.var 54) .nil))) (.cons (.tup (.cons (.bin .sub (.var 53) (.int 1)) (.cons (.var 54) .nil))) (.cons (.tup (.cons (.var 53) (.cons (.bin .add (.var 54) (.int 1)) .nil))) (.cons (.tup (.cons (.var 53) (.cons (.bin .sub (.var 54) (.int 1)) .nil))) .nil)))))) (ifs:=.cons (.cmp .iW (.var 6) (.var 52)) .nil) (enc:=ofPair) (m:=[(d.1+1,d.2),(d.1-1,d.2),(d.1,d.2+1),(d.1,d.2-1)]) (λq=>!decide (q∈ds)) ofPair (λD z=>by exact It.oe z) (dK rfl rfl) (λq D=>⟨[(52,.d (bj ds)),(6,.d (ofPair q))],rfl,by
    have c:=aW (C:=SM (n+7)) (o:=.iW) (a:=.var 6) (b:=.var 52) (ρ:=[(52,.d (bj ds)),(6,.d (ofPair q))]) (σ:=[bM A j,.lst (f.map ofPair)]) rfl rfl rfl rfl (jX q ds);cases h:(!decide (q∈ds))<;>rw[h]at c
    ·exact gX c
    ·exact ii c and_nil,λD=>rfl⟩) (show 4<4096 by decide)
   have c:=aW (o:=.ne) (b:=.lst .nil) cm rfl rfl rfl (ne_nil (iQ ds d));cases hc:(!decide (iQ ds d=[]))with
   |false=>rw[hc]at c;exact(h9 _ .next _ ⟨K,ai (bu c rfl aM) aM,(λD z=>by exact Fl.nr z),Nat.le_succ_of_le hf,.inr (fu _ _ rfl),rfl⟩)
   |true=>rw[hc]at c;refine(h9 _ .next (wA [(68,.loc 1),(53,.d (.int d.1)),(54,.d (.int d.2))],[bM A j,.lst ((f++[d]).map ofPair)]) ⟨K,ai (c8 c rfl (ai (iI rfl rfl (gw (es_2 rfl rfl) rfl rfl) rfl (fits_of (by rw[List.length_map];lia))) ?_)) aM,(λD z=>by exact Fl.nr z),by refine rl List.length_append ?_;exact Nat.succ_le_succ hf,.inr (fu _ _ rfl),rfl⟩);refine rl List.map_append ?_;exact aM
 have fo:∀(l f:Sp),l.foldl (λf d=>match !decide (iQ ds d=[])with |true=>f++[d]|false=>f) f=f++l.filter λd=>!decide (iQ ds d=[]):=λl=>by
  induction l with
  |nil=>intro f;exact(List.append_nil f).symm
  |cons d l ih=>
   intro f;rw[List.foldl_cons,ih];cases hc:(!decide (iQ ds d=[]))with
   |true=>refine rl (List.filter_cons_of_pos (p:=λd=>!decide (iQ ds d=[])) hc) ?_;skip;rw[List.append_assoc];rfl
   |false=>rw[List.filter_cons_of_neg (p:=λd=>!decide (iQ ds d=[])) (by refine rl hc ?_;exact Bool.false_ne_true)]
 rw[fo,List.nil_append]at G;dsimp only at G;subst G;have s6:aH (SM (n+7)) (.call 40 (.cons (.call 33 (.cons (.var 37) .nil)) (.cons (.var 68) .nil))) ρ' [bM A j,.lst ((ds.filter λd=>!decide (iQ ds d=[])).map ofPair)]=some (.d (.bool true),[bM A j,.eE (bj (ds.filter λd=>!decide (iQ ds d=[])))]):=by
  refine ay (ya (n:=n+4) (j1 (P:=Prim (Pd ds)) (k:=8) (λx y e=>H x y (Bool.and_eq_true_iff.mp e).1) (by decide)) (BZ (λx y e=>H x y (Bool.and_eq_true_iff.mp e).1) (nd.sublist List.filter_sublist) (λx y=>zN) (Nat.lt_of_le_of_lt (List.length_filter_le _ _) (by exact sr hl)))) λr i1 i2=>?_;have Q:ρ'.lookup 37=some (.d (bU (Pd ds))):=by rcases L with h|⟨a,b,h⟩<;>(dsimp only at h;subst h;rfl)
  have O:ρ'.lookup 68=some (.loc 1):=by rcases L with h|⟨a,b,h⟩<;>(dsimp only at h;subst h;rfl)
  exact ir (es_2 (bT (ds:=[_]) (es_1 (bY Q)) rfl (BQ (n:=n) H)) (bY O)) (eR rfl i1 rfl) i2
 refine(fu A j (?_));exact fC rfl (ai (gb (fM (aQ e1 rfl rfl rfl rfl) (fM (aQ e2 rfl rfl rfl rfl) gK)) rfl) (ai (bu s1 rfl aM) (ai (gb (fM (aQ e3 rfl rfl rfl rfl) (fM (aQ e4 rfl rfl rfl rfl) gK)) rfl) (ai (gb (fM e5 (fM e6 gK)) rfl) (ai s2 (ai (bu s3 rfl aM) (ai (bK s4) (ai (bu s5 rfl aM) (ai (iz rfl) (ai (fW (dK rfl rfl) e) (aU (a7 s6)))))))))))) rfl
noncomputable abbrev Py(R:D):D:=.lst [.ie 6 [],.ie 7 [],.ie 8 [(1,R)]]
theorem Gv(Q:ns.length≤63):∃(R p1 p2 s2:D) (e d:Sp) (a b:Int),cu (SM 8) (L3.body.take 8) ([(42,.d (bE ns))],[])=some (.next,([(42,.d (bE ns)),(45,.loc 0),(49,.d p1),(7,.d p2),(1,.d R),(5,.d s2),(61,.d (bj e)),(62,.d (bj d)),(70,.d (Py R))],[bM a b])):=by
 refine qM (zd (n:=7) Q) λa0 C V=>HO (o8 (n:=5) (a:=a0) (b:=C)) λp m s X W U i=>HO (uc (n:=4) (a:=X) (b:=W) i) λo k q g f T j=>?_;have c:=sJ i;have h:=sJ j;generalize u:eN p m s=e at c;generalize t:eN o k q=d at h;have A:=q9 (n:=4) i;have z:=q9 (n:=4) j;have w:=m4 (n:=7) i;have v:=m4 (n:=7) j;rw[u]at A w;rw[t]at z v;refine qM (wg (n:=0) (a:=g) (b:=f) c.nB c.nd c.len) λE B S=>?_;let env (r:aB):aB:=(42,.d (bE ns))::(45,.loc 0)::(49,.d (kR p m s))::(7,.d (kR o k q))::r;let ρ:aB:=env [(1,.d (bU (Pd e))),(5,.d (bU (Pd d))),(61,.d (bj e)),(62,.d (bj d))];have G:cM 8 (Pd e):=c.nB.mono (by decide);have F:cM 8 (Pd d):=h.nB.mono (by decide);have J:=c.len;have I:=h.len;have P:=not_true (mo (n:=5) (a:=.var 1) (b:=.var 61) (ρ:=ρ) (σ:=[bM g f]) (es_2 rfl rfl) G c.nd (λx y=>iG.symm) (by lia));have O:=not_true (mo (n:=5) (a:=.var 5) (b:=.var 62) (ρ:=ρ) (σ:=[bM g f]) (es_2 rfl rfl) F h.nd (λx y=>iG.symm) (by lia));have N:=not_true (bT (n:=8) (l:=.cons (.var 1) (.cons (.var 61) (.cons (.var 49) .nil))) (ρ:=ρ) (σ:=[bM g f]) rfl rfl (o9 i G));have M:=not_true (bT (n:=8) (l:=.cons (.var 5) (.cons (.var 62) (.cons (.var 7) .nil))) (ρ:=ρ) (σ:=[bM g f]) rfl rfl (o9 j F));have L:=not_true (bT (n:=8) (l:=.cons (.var 1) (.cons (.var 5) (.cons (.var 61) (.cons (.var 62) .nil)))) (ρ:=ρ) (σ:=[bM g f]) rfl rfl (zc c.nB h.nB c.nd h.nd J I));have K:aH (SM 8) (.not (.call 44 (.cons (.var 45) (.cons (.var 1) (.cons (.var 61) .nil))))) ρ [bM g f]=some (.d (.bool false),[bM E B]):=not_true (ir (es_3 rfl rfl rfl) (eR rfl S rfl) rfl);have H:fK (SM 8) (.call 34 (.cons (.var 42) (.cons (.int 0) .nil))) [(42,.d (bE ns))] []=some (bM a0 C,[]):=by exact aF (es_2 rfl rfl) (Hh (eR (as:=[.d (bE ns),.d (.int 0)]) (σ1:=[]) (ks:=[]) rfl V rfl))
 refine(Ao (bU (Pd e)) (kR p m s) (kR o k q) (bU (Pd d)) e d E B (?_));exact ai (iz H) (ai (bK (ir (es_1 rfl) (eR rfl U rfl) rfl)) (ai (bK (ir (es_2 rfl rfl) (eR rfl T rfl) rfl)) (ai (gb (fM (bT rfl rfl A) (fM (bT rfl rfl z) (fM (bT rfl rfl w) (fM (bT rfl rfl v) gK)))) rfl) (ai (bu (fL (iX P (iX O (iX N or_nil)))) rfl aM) (ai (bu (fL (iX M (iX L or_nil))) rfl aM) (ai (bu K rfl aM) (ai (bK rfl) aM)))))))
theorem CJ:cu (SM 8) (L3.body.drop 9) (ρ,σ)=some (.ret (.d (.bool true)),(ρ,σ)):=by
 have G:∀b:Int,0<b→b≤3→Rg (λy=>match decide (y=2)with |true=>[(0,b)]|false=>[]):=λb i m=>by
  refine⟨λy=>?_,λy=>?_,λy h=>?_⟩
  ·cases decide (y=2)
   ·trivial
   ·exact⟨Lm,Le i,trivial⟩
  ·cases decide (y=2)
   ·exact(by decide:0<45)
   ·exact(by decide:1<45)
  ·by_cases e:y=2
   ·exact LA e
   ·rw[decide_eq_false e]at h;exact absurd rfl h
 have c:∀b:Int,0<b→b≤3→∀ks:List Int,2∈ks→ks.Nodup→ks.length<64→(SM 8).new 1 [.d (.dct (kd (λy=>bj (match decide (y=2)with |true=>[(0,b)]|false=>[])) ks))]=some (.c (.inst 1 [(25,.d (.dct (rowsOf λy=>match decide (y=2)with |true=>[(0,b)]|false=>[])))])):=λb i m ks v t u=>e8 (G b i m) t (λy k=>by
  by_cases e:y=2
  ·exact rl e v
  ·rw[decide_eq_false e]at k;exact absurd rfl k) u
 refine ay (m5 (n:=7) (G 2 (by decide) (by decide)) (G 3 (by decide) (by decide))) λq x p=>ay (m5 (n:=7) (G 2 (by decide) (by decide)) (G 2 (by decide) (by decide))) λA w o=>?_;have f:q=false:=by
  cases q with
  |false=>rfl
  |true=>have:=p.mp rfl 2;cases this
 have d:=o.mpr λz=>rfl;clear G p o;subst f d;have j:=jg (ρ:=ρ) (σ:=σ) (l:=.cons (.dct [2] (.cons (.lst (.cons (.tup (.cons (.int 0) (.cons (.int 2) .nil))) .nil)) .nil)) .nil) (ds:=[_]) rfl (c 2 (by decide) (by decide) [2] (.head _) (by decide) (by decide)) rfl;have s:=jg (ρ:=ρ) (σ:=σ) (l:=.cons (.dct [2] (.cons (.lst (.cons (.tup (.cons (.int 0) (.cons (.int 3) .nil))) .nil)) .nil)) .nil) (ds:=[_]) rfl (c 3 (by decide) (by decide) [2] (.head _) (by decide) (by decide)) rfl;have r:=jg (ρ:=ρ) (σ:=σ) (l:=.cons (.dct [2,5] (.cons (.lst (.cons (.tup (.cons (.int 0) (.cons (.int 2) .nil))) .nil)) (.cons (.lst .nil) .nil))) .nil) (ds:=[_]) rfl (c 2 (by decide) (by decide) [2,5] (.head _) (by decide) (by decide)) rfl;exact ai (bu (bZ (g:=21) (ds:=[_]) j rfl rfl (es_1 s) rfl x) rfl aM) (aU (a7 (bZ (g:=21) (ds:=[_]) r rfl rfl (es_1 j) rfl w)))
end Law
section
open PySem.W PyProof.Rows PySem.Calls
theorem Cz(I:IntsAre vs ns):bQ f vs (ns.map D.int):=by
 induction I with
 |nil=>exact .nil
 |cons n t _ a=>exact .cons (.int n t) a
theorem rn:∀{tabs:List (Addr×Addr)},(∀q∈tabs,GrownAt q.2 h)→GrownAll tabs h
 |[],_=>trivial
 |_::_,k=>⟨k _ (.head _),rn λq a=>k q (.tail _ a)⟩
theorem L2(i:ns.length≤63):HC (yM (Mine.SM 8) (L3.body.take 8) (yt (cu (Mine.SM 8) (L3.body.drop 9)))) [42] [.d (Law.bE ns)]=some (.d (.bool true),[]):=by
 refine rU (Law.Gv i) λR l k s2 n h=>D7 h λm a b e=>?_;have f:∀d∈[D.ie 6 [],.ie 7 [],.ie 8 [(1,R)]],Ea d:=λd c=>by
  rcases List.mem_cons.mp c with rfl|c
  ·exact(fu 6 ([]) ⟨rfl,.inl ⟨rfl,rfl⟩⟩)
  refine Or.elim (List.mem_cons.mp c) (λg=>?_) λc=>?_
  ·subst g;exact(fu 7 ([]) ⟨rfl,.inr (.inl ⟨rfl,rfl⟩)⟩)
  ·exact rl (List.mem_singleton.mp c) (fu 8 _ ⟨rfl,.inr (.inr ⟨rfl,_,rfl⟩)⟩)
 have j:=(xx e).trans ((show yt _ _=_ from if_pos ⟨_,rfl,f⟩).trans Law.CJ);exact aF rfl (aF j rfl)
theorem NZ(env:Env):bO (callerA.deeper env) 8:=⟨rfl,by show callerA.depth+1+2*8<recursionLimit;decide+kernel,by show callerA.units+3+40*8+200<cLine;decide+kernel⟩
theorem Ct{s:Shared}(g:TabsAt cU s.heap):Hp (ghostOf s.heap cU) (ghostOf s.heap cU).get? [] s.heap []where
 on:=λa o e=>of_hideAll _ e
 base:=λb b e=>e
 tabs:=λt d=>⟨#[],(g (t.2.1,t.1) (List.mem_map.mpr ⟨t,d,rfl⟩)).2,trivial,λpos h e=>by simp[codeAmong]at e⟩
 jA:=λa f=>hideAll_none _ f
 len:=rfl
 cells:=λb b b e=>nomatch e
 apart:=λb b b b b b b e=>nomatch e
 gE:=λb e=>nomatch e
 has:=λb e=>nomatch e
theorem CK(u:TabsAt cU s.heap)(L:ic w mg mb (ghostOf s.heap cU))(p:s.gens=#[])
  (n:(ghostOf s.heap cU).get? l=some (dR vs 0))(x:IntsAre vs ns)(m:ns.length≤63):codeAny (model P0 w) callerA (.call (.ref (ia 46)) ⟨[.ref l],[]⟩)
   (λr c=>r= .ok (.ret (.bool true))∧(∀b o,(ghostOf s.heap cU).get? b=some o→c.heap.get? b=some o)∧c.os=s.os∧c.gens=#[]∧GrownAll cU c.heap) s:=by
 have X:=Nb L (λP C=>hideAll_none _ C) 8;have F:=Nt L (g:=46) (by decide) rfl;refine x8 X.G F (λz h=>⟨false,OZ X z (C3 NS L X.G (Around.frames_deeper rfl) rfl ?_)⟩) (L2 m) NZ (Ct u) (.d (.lst n (Cz x)) .nil) (λE h' tk v S h h B=>?_)
 ·exact rl List.drop_drop ((O0 X z).at _)
 ·obtain⟨H,D⟩:=B;cases D;exact⟨rfl,λb o e=>H.all b o e,rfl,p,rn λq k=>by
   refine ay (List.mem_map.mp k) λt A f=>?_;clear u L p n x m X F S k;subst f;exact ay (H.tabs t A) λps e h=>⟨ps,e⟩⟩
theorem fin:PySem.Challenge.rw_pf0191_01.Holds:=
 Mine.Mi λa a a a e L d a a a c f b=>Mine.CK e L d c f b
end
end Mine
theorem PySem.Challenge.cw_pf0191_01_holds : PySem.Challenge.rw_pf0191_01.Holds :=
  Mine.fin
