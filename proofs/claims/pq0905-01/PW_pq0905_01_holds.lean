import PyProof.Rows.All
import Wide.All
import OpenK.AllK
import Wide.FinOn
import KE.KPairTest
import Lean
import PySem.Challenge.RW_pq0905_01
set_option Elab.async false
set_option linter.all false
set_option tactic.hygienic false
set_option genInjectivity false
set_option genSizeOf false
set_option bootstrap.genMatcherCode false
set_option maxRecDepth 1000000
set_option backward.match.sparseCases false
namespace Internal
noncomputable section
abbrev SP:=PySem.Value->PySem.Shared->Prop
abbrev nE:SP:=λ_ _=>False
abbrev OV:=PySem.Str->Option PySem.Value
section
section
set_option backward.match.sparseCases true
theorem cX {G:Prop}(h:P0/\P1)(k:P0->P1->G):G:=k h.1 h.2
theorem gC {G:Prop}(h:P0/\P1/\P2)(k:P0->P1->P2->G):G:=k h.1 h.2.1 h.2.2
theorem tD {G:Prop}(h:P0/\P1/\P2/\P3)(k:P0->P1->P2->P3->G):G:=k h.1 h.2.1 h.2.2.1 h.2.2.2
theorem HZ {G:Prop}(h:P0/\P1/\P2/\P3/\P4)(k:P0->P1->P2->P3->P4->G):G:=k h.1 h.2.1 h.2.2.1 h.2.2.2.1 h.2.2.2.2
theorem aQ {P0 P1:xg->Prop}{G:Prop}(h:∃x0,P0 x0/\P1 x0) (k:∀x0,P0 x0->P1 x0->G):G:=h.elim λx0 h=>k x0 h.1 h.2
theorem tE {P0 P1 P2:xg->Prop}{G:Prop}(h:∃x0,P0 x0/\P1 x0/\P2 x0) (k:∀x0,P0 x0->P1 x0->P2 x0->G):G:=h.elim λx0 h=>k x0 h.1 h.2.1 h.2.2
theorem P8 {P0 P1 P2 P3 P4 P5 P6:xg->Prop}{G:Prop}(h:∃x0,P0 x0/\P1 x0/\P2 x0/\P3 x0/\P4 x0/\P5 x0/\P6 x0) (k:∀x0,P0 x0->P1 x0->P2 x0->P3 x0->P4 x0->P5 x0->P6 x0->G):G:=h.elim λx0 h=>k x0 h.1 h.2.1 h.2.2.1 h.2.2.2.1 h.2.2.2.2.1 h.2.2.2.2.2.1 h.2.2.2.2.2.2
theorem UW {P0 P1 P2 P3 P4 P5 P6 P7:xg->Prop}{G:Prop}(h:∃x0,P0 x0/\P1 x0/\P2 x0/\P3 x0/\P4 x0/\P5 x0/\P6 x0/\P7 x0) (k:∀x0,P0 x0->P1 x0->P2 x0->P3 x0->P4 x0->P5 x0->P6 x0->P7 x0->G):G:=h.elim λx0 h=>k x0 h.1 h.2.1 h.2.2.1 h.2.2.2.1 h.2.2.2.2.1 h.2.2.2.2.2.1 h.2.2.2.2.2.2.1 h.2.2.2.2.2.2.2
theorem tF {P0:xg->Cs->Prop}{G:Prop}(h:∃x0 x1,P0 x0 x1) (k:∀x0 x1,P0 x0 x1->G):G:=h.elim λx0 h=>h.elim λx1 h=>k x0 x1 h
theorem pU {P0 P1:xg->Cs->Prop}{G:Prop}(h:∃x0 x1,P0 x0 x1/\P1 x0 x1) (k:∀x0 x1,P0 x0 x1->P1 x0 x1->G):G:=h.elim λx0 h=>h.elim λx1 h=>k x0 x1 h.1 h.2
theorem nK {P0 P1 P2:xg->Cs->Prop}{G:Prop}(h:∃x0 x1,P0 x0 x1/\P1 x0 x1/\P2 x0 x1) (k:∀x0 x1,P0 x0 x1->P1 x0 x1->P2 x0 x1->G):G:=h.elim λx0 h=>h.elim λx1 h=>k x0 x1 h.1 h.2.1 h.2.2
theorem Ae {P0 P1 P2 P3:xg->Cs->Prop}{G:Prop}(h:∃x0 x1,P0 x0 x1/\P1 x0 x1/\P2 x0 x1/\P3 x0 x1) (k:∀x0 x1,P0 x0 x1->P1 x0 x1->P2 x0 x1->P3 x0 x1->G):G:=h.elim λx0 h=>h.elim λx1 h=>k x0 x1 h.1 h.2.1 h.2.2.1 h.2.2.2
theorem UX {P0 P1 P2 P3 P4 P5:xg->Cs->Prop}{G:Prop}(h:∃x0 x1,P0 x0 x1/\P1 x0 x1/\P2 x0 x1/\P3 x0 x1/\P4 x0 x1/\P5 x0 x1) (k:∀x0 x1,P0 x0 x1->P1 x0 x1->P2 x0 x1->P3 x0 x1->P4 x0 x1->P5 x0 x1->G):G:=h.elim λx0 h=>h.elim λx1 h=>k x0 x1 h.1 h.2.1 h.2.2.1 h.2.2.2.1 h.2.2.2.2.1 h.2.2.2.2.2
theorem P9 {P0 P1 P2 P3 P4 P5 P6:xg->Cs->Prop}{G:Prop}(h:∃x0 x1,P0 x0 x1/\P1 x0 x1/\P2 x0 x1/\P3 x0 x1/\P4 x0 x1/\P5 x0 x1/\P6 x0 x1) (k:∀x0 x1,P0 x0 x1->P1 x0 x1->P2 x0 x1->P3 x0 x1->P4 x0 x1->P5 x0 x1->P6 x0 x1->G):G:=h.elim λx0 h=>h.elim λx1 h=>k x0 x1 h.1 h.2.1 h.2.2.1 h.2.2.2.1 h.2.2.2.2.1 h.2.2.2.2.2.1 h.2.2.2.2.2.2
theorem Qa {P0:xg->Cs->L4->Prop}{G:Prop}(h:∃x0 x1 x2,P0 x0 x1 x2) (k:∀x0 x1 x2,P0 x0 x1 x2->G):G:=h.elim λx0 h=>h.elim λx1 h=>h.elim λx2 h=>k x0 x1 x2 h
theorem Af {P0 P1 P2:xg->Cs->L4->Prop}{G:Prop}(h:∃x0 x1 x2,P0 x0 x1 x2/\P1 x0 x1 x2/\P2 x0 x1 x2) (k:∀x0 x1 x2,P0 x0 x1 x2->P1 x0 x1 x2->P2 x0 x1 x2->G):G:=h.elim λx0 h=>h.elim λx1 h=>h.elim λx2 h=>k x0 x1 x2 h.1 h.2.1 h.2.2
theorem Qb {P0 P1 P2 P3 P4 P5:xg->Cs->L4->Prop}{G:Prop}(h:∃x0 x1 x2,P0 x0 x1 x2/\P1 x0 x1 x2/\P2 x0 x1 x2/\P3 x0 x1 x2/\P4 x0 x1 x2/\P5 x0 x1 x2) (k:∀x0 x1 x2,P0 x0 x1 x2->P1 x0 x1 x2->P2 x0 x1 x2->P3 x0 x1 x2->P4 x0 x1 x2->P5 x0 x1 x2->G):G:=h.elim λx0 h=>h.elim λx1 h=>h.elim λx2 h=>k x0 x1 x2 h.1 h.2.1 h.2.2.1 h.2.2.2.1 h.2.2.2.2.1 h.2.2.2.2.2
theorem UY {P0:xg->Cs->L4->Ra->Prop}{G:Prop}(h:∃x0 x1 x2 x3,P0 x0 x1 x2 x3) (k:∀x0 x1 x2 x3,P0 x0 x1 x2 x3->G):G:=h.elim λx0 h=>h.elim λx1 h=>h.elim λx2 h=>h.elim λx3 h=>k x0 x1 x2 x3 h
theorem uy {P0 P1 P2 P3:xg->Cs->L4->Ra->Prop}{G:Prop}(h:∃x0 x1 x2 x3,P0 x0 x1 x2 x3/\P1 x0 x1 x2 x3/\P2 x0 x1 x2 x3/\P3 x0 x1 x2 x3) (k:∀x0 x1 x2 x3,P0 x0 x1 x2 x3->P1 x0 x1 x2 x3->P2 x0 x1 x2 x3->P3 x0 x1 x2 x3->G):G:=h.elim λx0 h=>h.elim λx1 h=>h.elim λx2 h=>h.elim λx3 h=>k x0 x1 x2 x3 h.1 h.2.1 h.2.2.1 h.2.2.2
theorem UZ {P0 P1 P2 P3 P4 P5:xg->Cs->L4->Ra->Prop}{G:Prop}(h:∃x0 x1 x2 x3,P0 x0 x1 x2 x3/\P1 x0 x1 x2 x3/\P2 x0 x1 x2 x3/\P3 x0 x1 x2 x3/\P4 x0 x1 x2 x3/\P5 x0 x1 x2 x3) (k:∀x0 x1 x2 x3,P0 x0 x1 x2 x3->P1 x0 x1 x2 x3->P2 x0 x1 x2 x3->P3 x0 x1 x2 x3->P4 x0 x1 x2 x3->P5 x0 x1 x2 x3->G):G:=h.elim λx0 h=>h.elim λx1 h=>h.elim λx2 h=>h.elim λx3 h=>k x0 x1 x2 x3 h.1 h.2.1 h.2.2.1 h.2.2.2.1 h.2.2.2.2.1 h.2.2.2.2.2
theorem Qc {P0:xg->Cs->L4->Ra->Yi->Prop}{G:Prop}(h:∃x0 x1 x2 x3 x4,P0 x0 x1 x2 x3 x4) (k:∀x0 x1 x2 x3 x4,P0 x0 x1 x2 x3 x4->G):G:=h.elim λx0 h=>h.elim λx1 h=>h.elim λx2 h=>h.elim λx3 h=>h.elim λx4 h=>k x0 x1 x2 x3 x4 h
theorem lI {P0:xg->Cs->L4->Ra->Yi->Y6->Prop}{G:Prop}(h:∃x0 x1 x2 x3 x4 x5,P0 x0 x1 x2 x3 x4 x5) (k:∀x0 x1 x2 x3 x4 x5,P0 x0 x1 x2 x3 x4 x5->G):G:=h.elim λx0 h=>h.elim λx1 h=>h.elim λx2 h=>h.elim λx3 h=>h.elim λx4 h=>h.elim λx5 h=>k x0 x1 x2 x3 x4 x5 h
theorem U0 {P0 P1 P2 P3 P4:xg->Cs->L4->Ra->Yi->Y6->Prop}{G:Prop}(h:∃x0 x1 x2 x3 x4 x5,P0 x0 x1 x2 x3 x4 x5/\P1 x0 x1 x2 x3 x4 x5/\P2 x0 x1 x2 x3 x4 x5/\P3 x0 x1 x2 x3 x4 x5/\P4 x0 x1 x2 x3 x4 x5) (k:∀x0 x1 x2 x3 x4 x5,P0 x0 x1 x2 x3 x4 x5->P1 x0 x1 x2 x3 x4 x5->P2 x0 x1 x2 x3 x4 x5->P3 x0 x1 x2 x3 x4 x5->P4 x0 x1 x2 x3 x4 x5->G):G:=h.elim λx0 h=>h.elim λx1 h=>h.elim λx2 h=>h.elim λx3 h=>h.elim λx4 h=>h.elim λx5 h=>k x0 x1 x2 x3 x4 x5 h.1 h.2.1 h.2.2.1 h.2.2.2.1 h.2.2.2.2
theorem fq {P0 P1:xg->Cs->L4->Ra->Yi->Y6->α6->Prop}{G:Prop}(h:∃x0 x1 x2 x3 x4 x5 x6,P0 x0 x1 x2 x3 x4 x5 x6/\P1 x0 x1 x2 x3 x4 x5 x6) (k:∀x0 x1 x2 x3 x4 x5 x6,P0 x0 x1 x2 x3 x4 x5 x6->P1 x0 x1 x2 x3 x4 x5 x6->G):G:=h.elim λx0 h=>h.elim λx1 h=>h.elim λx2 h=>h.elim λx3 h=>h.elim λx4 h=>h.elim λx5 h=>h.elim λx6 h=>k x0 x1 x2 x3 x4 x5 x6 h.1 h.2
theorem U1 {P0 P1 P2 P3 P4:xg->Cs->L4->Ra->Yi->Y6->α6->Prop}{G:Prop}(h:∃x0 x1 x2 x3 x4 x5 x6,P0 x0 x1 x2 x3 x4 x5 x6/\P1 x0 x1 x2 x3 x4 x5 x6/\P2 x0 x1 x2 x3 x4 x5 x6/\P3 x0 x1 x2 x3 x4 x5 x6/\P4 x0 x1 x2 x3 x4 x5 x6) (k:∀x0 x1 x2 x3 x4 x5 x6,P0 x0 x1 x2 x3 x4 x5 x6->P1 x0 x1 x2 x3 x4 x5 x6->P2 x0 x1 x2 x3 x4 x5 x6->P3 x0 x1 x2 x3 x4 x5 x6->P4 x0 x1 x2 x3 x4 x5 x6->G):G:=h.elim λx0 h=>h.elim λx1 h=>h.elim λx2 h=>h.elim λx3 h=>h.elim λx4 h=>h.elim λx5 h=>h.elim λx6 h=>k x0 x1 x2 x3 x4 x5 x6 h.1 h.2.1 h.2.2.1 h.2.2.2.1 h.2.2.2.2
end
end
section
open PySem
def Jt.ZF (bt:Bool)(t:SetTable)(Z:Prop):Prop:=∀(led:t.led=!bt)(zX:t.place.toList.Pairwise (·<·)),Z
def Jt (bt t):=∀Z:Prop,Jt.ZF bt t Z->Z
theorem Jt.mk:Jt.ZF bt t (Jt bt t):=λled zX _ Z=>Z led zX
def Jt.led (Z:Jt bt t):=Z _ λled zX=>led
def Jt.zX (Z:Jt bt t):=Z _ λled zX=>zX
theorem jN {xs:Array Nat}(hk:k<xs.size):xs.getD k d=xs.toList[k]'(by simpa using hk):=by
 rw [Array.getD_eq_getD_getElem?,Array.getElem?_eq_getElem hk];rfl
theorem H0 {xs:Array Nat}(h:xs.toList.Pairwise (·<·))(HO:a<b)(hb:b<xs.size):xs.getD a 0<xs.getD b 0:=
 jN (d:=0) (Nat.lt_trans HO hb)▸jN (d:=0) hb▸List.pairwise_iff_getElem.mp h a b _ _ HO
theorem CH {xs:Array Nat}(h:xs.toList.Pairwise (·<·))(HO:a<=b)(hb:b<xs.size):xs.getD a 0<=xs.getD b 0:=
 (Nat.eq_or_lt_of_le HO).elim (λe=>e▸Nat.le_refl _) λl=>Nat.le_of_lt (H0 h l hb)
def yk.ZF (xs:Array Nat)(j r:Nat)(Z:Prop):Prop:=∀(le:r<=xs.size)(lt:∀k,k<r->xs.getD k 0<j) (ge:∀k,r<=k->k<xs.size->j<=xs.getD k 0),Z
def yk (xs j r):=∀Z:Prop,yk.ZF xs j r Z->Z
theorem yk.mk:yk.ZF xs j r (yk xs j r):=λle lt ge _ Z=>Z le lt ge
def yk.le (Z:yk xs j r):=Z _ λle lt ge=>le
def yk.lt (Z:yk xs j r):=Z _ λle lt ge=>lt
def yk.ge (Z:yk xs j r):=Z _ λle lt ge=>ge
theorem FQ {P:α->Prop}[Decidable c]{a b:α}(h:c)(k:P a):P (if c then a else b):=(if_pos h).symm▸k
theorem FT {P:α->Prop}[Decidable c]{a b:α}(h:¬c)(k:P b):P (if c then a else b):=(if_neg h).symm▸k
theorem Ia {a:α}{p:Prop}(h:none=some a):p:=by injection h
theorem Rb (h:lo<hi):lo<=(lo+hi) / 2/\(lo+hi) / 2<hi:=
 ⟨(Nat.le_div_iff_mul_le (Nat.succ_pos 1)).mpr (Nat.mul_two lo▸Nat.add_le_add_left (Nat.le_of_lt h) lo),Nat.div_lt_of_lt_mul (Nat.two_mul hi▸Nat.add_lt_add_right h hi)⟩
theorem Y7 (h:lo<=m):lo+(f+1)<=m+1+f:=by rw [Nat.add_right_comm,<- Nat.add_assoc];exact Nat.succ_le_succ (Nat.add_le_add_right h _)
theorem Ib (h:xs.toList.Pairwise (·<·))(fuel:Nat):∀lo hi,hi<=lo+fuel->lo<=hi->hi<=xs.size->(∀k,k<lo->xs.getD k 0<j)->(∀k,hi<=k->k<xs.size->j<=xs.getD k 0)->yk xs j (SetTable.below.go xs j fuel lo hi):=by
 induction fuel with
 |zero=>exact λlo hi hf hle hs h1 h2=>(.mk (Nat.le_trans hle hs) h1 (λk hk=>h2 k (Nat.le_trans hf hk)))
 |succ fuel ih=>
  intro lo hi hf hle hs h1 h2;by_cases fX:lo<hi
  ·obtain ⟨m1,m2⟩:=Rb fX
   refine FQ (P:=yk xs j) fX (?_:yk xs j (if xs.getD ((lo+hi) / 2) j<j then SetTable.below.go xs j fuel ((lo+hi) / 2+1) hi else SetTable.below.go xs j fuel lo ((lo+hi) / 2)));generalize (lo+hi) / 2=m at m1 m2;have ms:=Nat.lt_of_lt_of_le m2 hs;by_cases hm:xs.getD m j<j
   ·have CI:xs.getD m 0<j:=Nat.lt_of_le_of_lt (Nat.le_of_eq ((jN ms).trans (jN ms).symm)) hm
    exact FQ (P:=yk xs j) hm <| ih _ hi (Nat.le_trans hf (Y7 m1)) m2 hs (λk hk=>Nat.lt_of_le_of_lt (CH h (Nat.le_of_lt_succ hk) ms) CI) h2
   ·have CI:j<=xs.getD m 0:=((jN ms).trans (jN ms).symm)▸Nat.le_of_not_lt hm
    exact FT (P:=yk xs j) hm <| ih lo m (Nat.le_of_lt_succ (Nat.lt_of_lt_of_le m2 hf)) m1 (Nat.le_of_lt ms) h1 λk hk U2=>Nat.le_trans CI (CH h hk U2)
  ·exact FT (P:=yk xs j) fX ((.mk (Nat.le_trans hle hs) h1 (λk hk=>h2 k (Nat.le_trans (Nat.le_of_not_lt fX) hk))):yk xs j lo)
theorem ql (j:Nat)(h:xs.toList.Pairwise (·<·)):yk xs j (SetTable.below xs j):=
 Ib h xs.size 0 xs.size (Nat.le_add_left _ _) (Nat.zero_le _) (Nat.le_refl _) (λk hk=>absurd hk (Nat.not_lt_zero k)) λk hk U2=>absurd U2 (Nat.not_lt_of_le hk)
theorem uz (h:xs.toList.Pairwise (·<·)):SetTable.below xs 0=0:=
 Nat.eq_zero_of_not_pos λp=>Nat.not_lt_zero _ ((ql 0 h).lt 0 p)
theorem uA (h:xs.toList.Pairwise (·<·))(hi:i<xs.size):SetTable.below xs (xs.getD i 0+1)=i+1:=
 have B:=ql (xs.getD i 0+1) h
 Nat.le_antisymm (Nat.le_of_not_lt λhn=>Nat.not_le_of_lt (H0 h (Nat.lt_succ_self i) (Nat.lt_of_lt_of_le hn B.le)) (Nat.le_of_lt_succ (B.lt (i+1) hn)))
  (Nat.lt_of_not_le λhn=>Nat.not_succ_le_self _ (B.ge i hn hi))
theorem CJ {xs:Array Nat}(h:xs.toList.Pairwise (·<·))(h1:∀a∈xs.toList.take p,a<x) (h2:∀a∈xs.toList.drop p,x<a):(SetTable.insertAt xs p x).toList.Pairwise (·<·):=by
 rw [SetTable.toList_insertAt];have h0:=List.pairwise_append.mp ((List.take_append_drop p xs.toList).symm▸h);refine List.pairwise_append.mpr ⟨h0.1,List.pairwise_cons.mpr ⟨h2,h0.2.1⟩,λa ha b hb=>?_⟩;rcases List.mem_cons.mp hb with e|hb
 ·exact e▸h1 a ha
 ·exact h0.2.2 a ha b hb
theorem Rc {xs:Array Nat}(hk:k<xs.size):xs[k]?=some (xs.getD k 0):=by
 rw [jN hk,Array.getElem?_eq_getElem hk];rfl
theorem Ms (h:xs.toList.Pairwise (·<·))(hj:xs[SetTable.below xs j]?≠some j):(SetTable.insertAt xs (SetTable.below xs j) j).toList.Pairwise (·<·):=by
 have B:=ql j h;generalize SetTable.below xs j=r at hj B;refine CJ h (λa ha=>?_) λa ha=>?_
 ·obtain ⟨k,hk,e⟩:=List.mem_take_iff_getElem.mp ha
  have hk:=Nat.lt_min.mp hk;exact e▸jN (d:=0) hk.2▸B.lt k hk.1
 ·obtain ⟨k,hk,e⟩:=List.mem_drop_iff_getElem.mp ha
  replace hk:r+k<xs.size:=Nat.add_comm k r▸hk;refine e▸jN (d:=0) (k:=r+k) hk▸?_;have hr:r<xs.size:=Nat.lt_of_le_of_lt (Nat.le_add_right _ k) hk;exact Nat.lt_of_lt_of_le (Nat.lt_of_le_of_ne (B.ge r (Nat.le_refl _) hr) λq=>hj (q▸Rc hr)) (CH h (Nat.le_add_right _ k) hk)
inductive mu (t:SetTable)(j:Nat):SetTable.Slot->Prop
 |live (i:Nat):mu t j (.live i)
 |dummy (h:t.place[SetTable.below t.place j]?≠some j):mu t j .dummy
 |empty (h:t.place[SetTable.below t.place j]?≠some j):mu t j .empty
theorem Mu (t:SetTable)(j:Nat):mu t j (t.slot j):=by
 show mu t j (if t.place[SetTable.below t.place j]?==some j then .live _ else if SetTable.has t.dummies j then .dummy else .empty);by_cases h:t.place[SetTable.below t.place j]?=some j
 ·exact FQ (P:=mu t j) (beq_iff_eq.mpr h) (.live _)
 ·refine FT (P:=mu t j) (λe=>h (beq_iff_eq.mp e)) ?_
  by_cases hd:SetTable.has t.dummies j=true
  ·exact FQ (P:=mu t j) hd (.dummy h)
  ·exact FT (P:=mu t j) hd (.empty h)
abbrev Yj (t:SetTable)(j:Nat):Prop:=t.place[SetTable.below t.place j]?≠some j
inductive qX (t:SetTable):Option SetTable.Met->Prop
 |none:qX t none
 |U3 (j i n):qX t (some (.candidate j i n))
 |empty (j d) (h:Yj t j) (hd:∀x,d=some x->Yj t x):qX t (some (.empty j d))
theorem xh (t:SetTable)(p:SetTable.Probe):(t.advance p).dummy=p.dummy:=by
 unfold SetTable.advance;dsimp only;split<;>rfl
theorem CK (fuel:Nat):∀(p:SetTable.Probe),(∀x,p.dummy=some x->Yj t x)->qX t (SetTable.probe.go t f h fuel p):=by
 induction fuel with
 |zero=>exact λp hp=>.none
 |succ fuel ih=>
  intro p hp;have S:=Mu t p.j;show qX t (match t.slot p.j with
   |.empty=>some (.empty p.j p.dummy)
   |.dummy=>SetTable.probe.go t f h fuel (t.advance {p with dummy:=some p.j})
   |.live i=>if f i==h then some (.candidate p.j i (t.advance p)) else SetTable.probe.go t f h fuel (t.advance p))
  generalize t.slot p.j=sl at S;induction S with
  |live i=>
   show qX t (if f i==h then _ else _);by_cases e:(f i==h)=true
   ·exact FQ (P:=qX t) e (.U3 _ _ _)
   ·exact FT (P:=qX t) e <| ih _ λx hx=>hp x (xh t p▸hx)
  |dummy h1=>exact ih _ λx hx=>Option.some.inj ((xh t _).symm.trans hx)▸h1
  |empty h1=>exact .empty _ _ h1 hp
theorem FU (e:t.freeSlot h=some (slot,b)):Yj t slot:=by
 delta SetTable.freeSlot at e;have M:qX t (t.probe (λ_=>h+1) h (t.probeStart h)):=CK _ _ λx hx=>Ia hx;generalize t.probe (λ_=>h+1) h (t.probeStart h)=m at e M;induction M with
 |none=>exact Ia e
 |U3 j i n=>exact Ia e
 |empty j d h1 hd=>
  have q:d.getD j=slot:=congrArg Prod.fst (Option.some.inj e);refine q▸?_;induction d with
  |none=>exact h1
  |some x=>exact hd x rfl
theorem Jt.standIn {t:SetTable}(h:t.led=!bt):Jt bt (t.standIn n):=(.mk h (show (Array.range n).toList.Pairwise (·<·) from Array.toList_range (n:=n)▸List.pairwise_lt_range))
theorem Jt.Mv (J:Jt bt t):Jt bt (t.orStandIn n):=by
 unfold SetTable.orStandIn;by_cases h:t.fits n=true
 ·exact FQ (P:=Jt bt) h J
 ·exact FT (P:=Jt bt) h (Jt.standIn J.led)
theorem Jt.lay (J:Jt bt t):Jt bt (layNew t es h x).2.1 :=by
 unfold layNew;cases e:t.freeSlot h with
 |none=>exact Jt.standIn J.led
 |some y=>exact Jt.Mv (.mk J.led (Ms J.zX (FU (b:=y.2) e)))
theorem Ic {ow:Array (Option Nat)}:((((List.range n).filterMap λj=>(ow.getD j none).map (j,·)).map (·.1)).toArray).toList.Pairwise (·<·):=by
 rw [List.toList_toArray,List.pairwise_map];refine List.pairwise_filterMap.mpr (List.Pairwise.imp (λ{a b} HO x hx y hy=>?_) List.pairwise_lt_range);refine aQ (Option.map_eq_some_iff.mp hx) λi Z e1=>?_;refine aQ (Option.map_eq_some_iff.mp hy) λk Z e2=>?_;exact e1▸e2▸HO
theorem Jt.U4 (J:Jt bt t):Jt bt (relayAll t es n).2.1 :=by
 unfold relayAll;have h:∀y,t.relaid (es.map (·.1)) n=some y->Jt bt y.1:=λy e=>by
  refine aQ (Option.bind_eq_some_iff.mp e) λow Z e2=>?_;exact Option.some.inj e2▸(.mk J.led Ic)
 generalize t.relaid (es.map (·.1)) n=o at h;induction o with
 |none=>exact Jt.standIn J.led
 |some y=>
  show Jt bt (ite _ _ _:_×_×_).2.1;split
  ·exact h y rfl
  ·exact Jt.standIn J.led
end
section
open PySem PySem.W PySem.Calls PyProof.Rows PySem.Spec
def j7.ZF (prog:Program)(w:World)(h:Heap)(a:Addr)(ks:List Int)(Z:Prop):Prop:=∀(es:Array (Int×Value))(ep:Nat)(t:SetTable)(is:List Int)(get:h.get? a=some {cls:=.type "set",dict:=none,data:=.set es ep t,slots:=#[]}) (el:ElemsOf (intKind prog w) es.toList) (ia:IntsAre (es.toList.map (·.2)) is) (perm:is.Perm ks) (fits:t.fits es.size=true) (J:Jt (w.params.followText "set-order") t),Z
def j7 (prog w h a ks):=∀Z:Prop,j7.ZF prog w h a ks Z->Z
theorem j7.mk:j7.ZF prog w h a ks (j7 prog w h a ks):=λes ep t is get el ia perm fits J _ Z=>Z es ep t is get el ia perm fits J
section
variable {s:Shared}
theorem j7.at (S:j7 prog w s.heap a ks)(k:∀o,s.heap.get? a=some o->h.get? a=some o):j7 prog w h a ks:=by
 refine S _ λes ep t is g e i p f J=>?_;exact (.mk es ep t is (k _ g) e i p f J)
theorem sj:∀{vs Ie:List Value},Ie.Perm vs->∀{is:List Int},IntsAre vs is->∃Qd,IntsAre Ie Qd/\Qd.Perm is:=by
 intro vs Ie p;induction p with
 |nil=>intro is h;exact ⟨is,h,.refl _⟩
 |cons x p ih=>
  intro is h;cases h with
  |cons n t h=>obtain ⟨Qd,h1,h2⟩:=ih h;exact ⟨n::Qd,.cons n t h1,h2.cons n⟩
 |swap x y l=>
  intro is h;cases h with
  |cons n t h=>cases h with
   |cons m u h=>exact ⟨m::n::_,.cons m u (.cons n t h),.swap _ _ _⟩
 |trans p q ih1 ih2=>
  intro is h;refine aQ (ih2 h) λQd h1 h2=>?_;refine aQ (ih1 h1) λY8 h3 h4=>?_;exact ⟨Y8,h3,h4.trans h2⟩
theorem Ig (h:IntsAre vs is):∀v,v∈vs->∃n t,v=.int n t/\n∈is:=by
 induction h with
 |nil=>exact λv h=>absurd h List.not_mem_nil
 |cons n t hr ih=>
  intro v h;rcases List.mem_cons.mp h with rfl|h
  ·exact ⟨n,t,rfl,.head _⟩
  ·refine pU (ih v h) λm u e hm=>?_
   exact ⟨m,u,e,.tail _ hm⟩
theorem ints_app (h:IntsAre vs is):IntsAre (vs++[.int n t]) (is++[n]):=by
 induction h with
 |nil=>exact .cons n t .nil
 |cons m u hr ih=>exact .cons m u ih
theorem Mw {es:Array (Int×Value)}:((es.push (h,v)).toList.map (·.2))=es.toList.map (·.2)++[v]:=by
 rw [Array.toList_push,List.map_append];rfl
theorem Eh {h:Heap}(ho:h.get? a=some {cls:=.type "set",dict:=none,data:=.set es ep t,slots:=#[]}):
  (h.update a (Obj.putSet es' t')).get? a=some {cls:=.type "set",dict:=none,data:=.set es' (ep+1) t',slots:=#[]}:=Heap.get?_update_self (Obj.putSet es' t') ho rfl
theorem U5 (S:j7 prog w s.heap a ks)(hk:k∉ks)(Ag:ks.length+1<scanBound)
  (h:∀h',Heap.SameBut a s.heap h'->j7 prog w h' a (ks++[k])->Q true {s with heap:=h'}):wpAny (model prog w) A (setAddHashed a (.int k tk) ((intKind prog w).hash k)) Q E s:=by
 refine S _ λes ep t is ho wy hi hp hf J=>?_;have Ah:es.size=ks.length:=by
  have:=PyProof.Rows.IntsAre.length hi;rw [List.length_map,Array.length_toList] at this;rw [this,hp.length_eq]
 have U6:(intKind prog w).is k (.int k tk)=true:=intKind_is _ _ _ _;have hno:es.toList.findIdx? (λe=>(intKind prog w).is k e.2)=none:=List.findIdx?_eq_none_iff.mpr λe he=>by
  refine pU (Ig hi e.2 (List.mem_map.mpr ⟨e,he,rfl⟩)) λn u e1 hn=>?_;simp only [e1,KeyKind.is_eq_decide (intKind_is prog w n u) k];exact decide_eq_false λe=>hk (hp.mem_iff.mp (e▸hn))
 refine wpAny_holding (wpAny_bind (wpAny_setState_of ho rfl hf ?_));dsimp only;rw [byScan_of (knd:=intKind prog w) rfl (by rw [Ah];exact Nat.le_of_lt ‹_›) wy,if_pos rfl];refine wpAny_bind (wpAny_bind (wpAny_rule (wpAny_bind (wpAny_setScan_of U6 ho rfl hf wy ?_))));refine (hno)▸?_;have Rd:∀(b:Bool){ba:Shared}{Q':Unit->Shared->Prop},Q' () ba->wpAny (model prog w) A (match b with|true=>rule "set.scan.the-table-gave-way"|false=>pure ()) Q' E ba:=λb ba Q' hq=>by
  induction b
  ·exact wpAny_pure hq
  ·exact wpAny_rule hq
 have l1:=layNew_perm t es ((intKind prog w).hash k) (.int k tk);have l2:=layNew_fits t es ((intKind prog w).hash k) (.int k tk);have l3:=J.lay (es:=es) (h:=(intKind prog w).hash k) (x:=.int k tk);generalize layNew t es ((intKind prog w).hash k) (.int k tk)=L at l1 l2 l3 ⊢;obtain ⟨wF,t1,U7,gv⟩:=L;dsimp only at l1 l2 l3 ⊢;refine wpAny_bind (Rd _ ?_);have U8:ElemsOf (intKind prog w) wF.toList:=by
  rw [Array.toList_push] at l1;exact (wy.push U6 rfl).perm l1
 have lm:=l1.map (·.2);simp only [Mw] at lm;refine aQ (sj lm (ints_app hi (n:=k) (t:=tk))) λis1 Qe tG=>?_;have tG:is1.Perm (ks++[k]):=tG.trans (hp.append_right _);have Uy:wF.size=ks.length+1:=by
  have:=PyProof.Rows.IntsAre.length Qe;rw [List.length_map,Array.length_toList] at this;simp only [this,tG.length_eq,List.length_append];rfl
 have FV:∀n,n<=ks.length+1->n<=sizeLine:=λn hn=>fits_of_scanBound (Nat.lt_of_le_of_lt hn Ag);have tail:∀(g:Bool->Sem Unit)(hg:∀(b:Bool)(ba:Shared)(Q':Unit->Shared->Prop),Q' () ba->wpAny (model prog w) A (g b) Q' E ba) (wd:Bool) {R:Option Bool->Shared->Prop},(∀s',Q true s'->R (some true) s')->wpAny (model prog w) A (do
   storeSet a wF t1
   if (!wd&&t1.tooFull)=true then do
    g (relayAll t1 wF (SetTable.grown wF.size)).2.2
    storeSet a (relayAll t1 wF (SetTable.grown wF.size)).1 (relayAll t1 wF (SetTable.grown wF.size)).2.1
    pure (some true)
   else pure (some true)) R E s:=λg hg wd R hR=>by
  refine wpAny_bind (wpAny_storeSet_of ho rfl ?_ (FV _ (by omega)));have g1:=Eh (es':=wF) (t':=t1) ho;have b1:=Heap.SameBut.update s.heap a (Obj.putSet wF t1);by_cases hf:(!wd&&t1.tooFull)=true
  ·rw [if_pos hf]
   have r1:=relayAll_perm t1 wF (SetTable.grown wF.size);have r2:=relayAll_fits t1 wF (SetTable.grown wF.size);have r3:=l3.U4 (es:=wF) (n:=SetTable.grown wF.size);generalize relayAll t1 wF (SetTable.grown wF.size)=L2 at r1 r2 r3 ⊢;obtain ⟨Ei,t2,gv2⟩:=L2;dsimp only at r1 r2 r3 ⊢;refine aQ (sj (r1.map (·.2)) Qe) λis2 U9 FW=>?_;have Rf:Ei.size=wF.size:=by
    have:=r1.length_eq;simp only [Array.length_toList,Array.length_toList] at this;exact this
   refine wpAny_bind (hg _ _ _ ?_);refine wpAny_bind (wpAny_storeSet_of g1 rfl ?_ (FV _ (by omega)));exact wpAny_pure (hR _ (h _ (b1.trans (Heap.SameBut.update _ a _)) (.mk Ei _ t2 is2 (Eh g1) (U8.perm r1) U9 (FW.trans tG) r2 r3)))
  ·rw [if_neg hf]
   exact wpAny_pure (hR _ (h _ b1 (.mk wF _ t1 is1 g1 U8 Qe tG l2 l3)))
 have Rg:hashByValue 8 (.int k tk)=pure true:=rfl;split
 ·rw [Rg]
  refine wpAny_bind (wpAny_pure ?_);rw [if_pos rfl];exact tail _ (λb ba Q' hq=>Rd b hq) _ λs' hq=>wpAny_pure hq
 ·refine wpAny_bind (wpAny_pure ?_)
  rw [if_pos rfl];exact tail _ (λb ba Q' hq=>Rd b hq) _ λs' hq=>wpAny_pure hq
end
noncomputable abbrev j8 (bt:Bool):Obj:={cls:=.type "set",dict:=none,data:=.set #[] 0 (.fresh 0 0 (!bt)),slots:=#[]}
section
theorem j7.fresh (ho:h.get? a=some (j8 (w.params.followText "set-order"))):j7 prog w h a []:=
 (.mk (#[]) 0 _ [] ho (λe he=>by simp at he) .nil (.refl _) rfl (.mk rfl List.Pairwise.nil))
section
variable {St:Nat->Shared->Prop}
theorem Va (W:WalksS prog w A.in1 I fp wr G n P St)(Rh:a∉fp)(val:Nat->Int)(Y9:∀i v,P i v->∃t,v=.int (val i) t) (Ri:∀i j,i<j->j<n->val i≠val j) (hb:n+1<scanBound):
  ∀(k i:Nat)(s:Shared),n - i=k->i<=n->St i s->j7 prog w s.heap a ((List.range i).map val)->
   (∀s',Moved (a::wr) G s s'->j7 prog w s'.heap a ((List.range n).map val)->R (.ok (.ret .none)) s')->
   codeAny (model prog w) A (.builtin "set.update.loop" ⟨[.ref a,.ref I],[]⟩) R s:=by
 have hSw:a∉wr:=λh=>Rh (W.sub _ h);intro k;induction k with
 |zero=>
  intro i s hk hi d0 hS hR;obtain rfl:i=n:=by omega
  refine codeAny_builtin PyProof.Rows.F.entry_set_update_loop ?_;refine (Around.under_plainId PyProof.Rows.F.plain_set_update_loop _)▸?_;refine wpAny_bind (W.done s _ _ d0 λs' hm=>?_);exact wpAny_pure (hR s' (hm.mono λb hb=>List.mem_cons_of_mem _ hb) (hS.at λo e=>hm.heap a o hSw e))
 |succ k ih=>
  intro i s hk hi d0 hS hR;refine codeAny_builtin PyProof.Rows.F.entry_set_update_loop ?_;refine (Around.under_plainId PyProof.Rows.F.plain_set_update_loop _)▸?_;refine wpAny_bind (W.item i s _ _ (by omega) d0 λv s' hP wH hm=>?_);obtain ⟨t,rfl⟩:=Y9 i v hP;refine wpAny_bind (wpAny_holding ?_);refine wpAny_holding (wpAny_bind ((intKind prog w).pyHash (k:=val i) (intKind_is _ _ _ _) ?_));have iP:j7 prog w ({s' with toks:=s'.toks+1}:Shared).heap a ((List.range i).map val):=hS.at λo e=>hm.heap a o hSw e;refine U5 (s:={s' with toks:=s'.toks+1}) iP (λhm=>?_) (by rw [List.length_map,List.length_range];omega) λh' L5 Ai=>?_
  ·refine aQ (List.mem_map.mp hm) λj hj e=>?_
   exact Ri j i (List.mem_range.mp hj) (by omega) e
  have Ct:j7 prog w h' a ((List.range (i+1)).map val):=by
   simp only [List.range_succ,List.map_append];exact Ai
  refine wpAny_pure ⟨plainId_quiet PyProof.Rows.F.plain_set_update_loop _,ih (i+1) _ (by omega) (by omega) (W.frame _ s' _ _ wH (Nat.le_succ _) λb hb o e=>?_) Ct λCL Za Zb=>?_⟩
  ·rw [L5.2 b (λh:b=a=>Rh (by rw [<- h];exact hb))];exact e
  ·refine hR CL (Moved.trans W.gtrans ((hm.mono λb hb=>List.mem_cons_of_mem _ hb).then_heap (Nat.le_succ _) λb o hb e=>?_) Za) Zb
   rw [L5.2 b (λh:b=a=>hb (by rw [h];exact List.mem_cons_self))];exact e
end
theorem Mx (x:Value)(h:Q₁ (.ref s.heap.objs.size) {s with heap:=s.heap.push (j8 (w.params.followText "set-order"))}):
  codeAny (model prog w) A (.call (.builtin "set.__new__") ⟨[.type "set",x],[]⟩) (wants Q₁ E) s:=by
 refine codeAny_of_tree ?_;show wpAny _ A.in1 (do checkBuiltinCall "set.__new__" ⟨[.type "set",x],[]⟩;again (.builtin "set.__new__" ⟨[.type "set",x],[]⟩)) _ _ s;refine wpAny_bind (wpAny_of_eq (PySem.F.newCall_set_1 x) (wpAny_pure ⟨plainId_quiet PySem.F.plain_set_new _,codeAny_builtin PySem.F.entry_set_new ?_⟩));refine (Around.under_plainId PySem.F.plain_set_new _)▸?_;delta Builtin.«set.__new__» Builtin.Frozenset.newClass;have Rj:=sub_set_self;obtain ⟨hp,g,d,tk,os⟩:=s
 wp_walk
 refine wpAny_askSetting (wpAny_pure ?_);dsimp only;exact wpAny_bind (wpAny_alloc (wpAny_pure (wpAny_pure h)))
end
section
theorem range_getD:∀{ns:List Int},(List.range ns.length).map (λi=>ns.getD i 0)=ns:=λ{ns}=>by
 refine List.ext_getElem (by simp) λi h1 h2=>?_;simp [List.getElem?_eq_getElem h2]
set_option maxHeartbeats 3200000 in
theorem Ih (hh:A.handled=none)(hl:s.heap.IsList l vs.toArray)(hi:IntsAre vs ns)(Ri:ns.Nodup)(hb:ns.length+1<scanBound)(Uz:l≠a)(ha:s.heap.get? a=some (j8 (w.params.followText "set-order")))
  {P:PySem.Fin->Shared->Prop}(h:∀h' tk,j7 prog w h' a ns->(∀b o,b≠a->s.heap.get? b=some o->h'.get? b=some o)->P (.done (.ret .none)) {s with heap:=h',toks:=tk}):
  wpAny (model prog w) A (Builtin.«set.__init__» ⟨[.ref a,.ref l],[]⟩) P E s:=by
 refine tE (id hl) λol hol Aj FX=>?_;obtain ⟨nl,FY⟩:=FX;obtain ⟨acP,abf,abg,Zc⟩:=ol;simp only at Aj FY;subst Aj;subst FY;have acQ:=PySem.F.sub_list_set;have acR:=PySem.F.sub_list_frozenset;have dw:(Value.type "list"==Value.type "dict")=false:=by decide
 have hT:s.TypeIs (.ref a) "set":=⟨_,ha,rfl⟩;delta Builtin.«set.__init__» noKeywords Builtin.Frozenset.updateFrom;generalize hPI:pyIter=PI
 wp_walk
 subst hPI;refine wpAny_pyIter_list hl ?_;refine wpAny_bind (wpAny_runValue ?_);have Zd:l<s.heap.objs.size:=Heap.lt_size hol;have Vb:a<s.heap.objs.size:=Heap.lt_size ha;have Ah:vs.toArray.size=ns.length:=by rw [List.size_toArray];exact PyProof.Rows.IntsAre.length hi
 have hh3:A.in1.handled=none:=by simp [hh]
 refine Va (W:=(Walks.list hh3 s.heap.objs.size l (Nat.ne_of_lt Zd) vs.toArray).toS) (a:=a) (by simp only [List.mem_cons,List.not_mem_nil,or_false,not_or];exact ⟨Nat.ne_of_lt Vb,Ne.symm Uz⟩) (λi=>ns.getD i 0)
  (λi v hv=>PyProof.Rows.IntsAre.int_at hi i v (by simp only [<- hv];simp)) (λi j L6 hj=>?_) (by refine (Ah)▸?_;exact hb) _ 0 _ rfl (Nat.zero_le _) ⟨⟨_,Heap.get?_push_size _ rfl,rfl,rfl⟩,hl.push _⟩ (j7.fresh (Heap.get?_push_of_some _ ha)) λs' hm iP=>?_
 ·replace hj:=(Ah)▸hj
  have:=List.pairwise_iff_getElem.mp Ri i j (by omega) hj L6
  simpa [List.getElem?_eq_getElem hj,List.getElem?_eq_getElem (Nat.lt_trans L6 hj)] using this
 ·simp only [Ah,range_getD] at iP
  obtain ⟨h',g',d',Ze,Ii⟩:=s';have eg:g'=s.gens:=hm.gens;have ed:d'=s.drawn:=hm.drawn;have eo:Ii=s.os:=hm.os;refine eg▸?_;subst ed;subst eo;refine wpAny_pure ?_;refine wpAny_pure (h h' Ze iP λb o hb e=>?_);exact hm.heap b o (by simp only [List.mem_cons,List.mem_singleton,List.not_mem_nil,or_false,not_or];exact ⟨hb,Nat.ne_of_lt (Heap.lt_size e)⟩) (Heap.get?_push_of_some _ e)
end
section
set_option maxHeartbeats 3200000 in
theorem Ij (hh:A.handled=none)(hl:s.heap.IsList l vs.toArray)(hi:IntsAre vs ns)(Ri:ns.Nodup)(hb:ns.length+1<scanBound)
  (h:∀h' tk,j7 prog w h' s.heap.objs.size ns->(∀b o,s.heap.get? b=some o->h'.get? b=some o)->Q (.ref s.heap.objs.size) {s with heap:=h',toks:=tk}):
  wpAny (model prog w) A (call (.type "set") [.ref l]) Q E s:=by
 have Zd:l<s.heap.objs.size:=by obtain ⟨_,ho,_⟩:=hl;exact Heap.lt_size ho
 refine tF PySem.F.called_set.mro λc tl Vc=>?_;have Qf:=PySem.F.called_set.made;have Rj:=PySem.F.called_set.sub;refine wpAny_call (codeAny_of_tree ?_);refine wpAny_pure ⟨Code.quiet_builtin _ (by decide+kernel),codeAny_builtin PySem.F.entry_type_call ?_⟩;refine (Around.under_plain (weight_type_call_type "set" [.ref l] []) rfl)▸?_;have h1:=PySem.F.called_set.notType;have h2:=PySem.F.called_set.canCreate;have hct:=PySem.F.typeCall_set_1 (.ref l)
 repeat (any_goals (first|assumption|wp_step))
 refine codeAny_mono (Mx (.ref l) (E:=E) (Q₁:=λv ba=>v=.ref s.heap.objs.size/\ba={s with heap:=s.heap.push (j8 (w.params.followText "set-order"))}) ⟨rfl,rfl⟩) λr ba hr=>?_;induction r with
 |error e=>exact hr
 |ok fl=>
  induction fl with
  |ret obj=>
   obtain ⟨rfl,rfl⟩:=hr;have hS:(s.heap.push (j8 (w.params.followText "set-order"))).get? s.heap.objs.size=some (j8 (w.params.followText "set-order")):=Heap.get?_push_size _ rfl;have hT:Shared.TypeIs {s with heap:=s.heap.push (j8 (w.params.followText "set-order"))} (.ref s.heap.objs.size) "set":=⟨_,hS,rfl⟩;have hli:=PySem.F.called_set.init.lookup;have hbi:=PySem.F.called_set.init.bind (.ref s.heap.objs.size)
   repeat (any_goals (first|assumption|wp_step))
   refine codeAny_mono (codeAny_call_builtin (R:=wants (λr kK=>r=.none/\Q (.ref s.heap.objs.size) kK) E) PySem.F.called_set.init.plain PySem.F.entry_set_init (check_set_init_1 hT
    (Ih (a:=s.heap.objs.size) (by simp [hh]) (hl.push _) hi Ri hb (Nat.ne_of_lt Zd) hS λh' tk hJ hk=>⟨rfl,h h' tk hJ λb o e=>hk b o (Nat.ne_of_lt (Heap.lt_size e)) (Heap.get?_push_of_some _ e)⟩))) λZf kK Ik=>?_
   induction Zf with
   |error e=>exact Ik
   |ok Vd=>
    induction Vd with
    |ret r=>
     obtain ⟨rfl,hq⟩:=Ik
     repeat (any_goals (first|assumption|wp_step))
    |_=>exact Ik.elim
  |_=>exact hr.elim
end
theorem uB {α:Type}{x:α}(l:List α):∀(i:Nat),l[i]?=some x->(x::l.eraseIdx i).Perm l:=by
 induction l with
 |nil=>exact λi h=>Ia h
 |cons y l ih=>exact λi=>Nat.casesOn i (λh=>(Option.some.inj h)▸.refl _) λi h=>(List.Perm.swap y x _).trans ((ih i h).cons y)
theorem FZ (g:α->Array α)(o:Array α)(h:r=some x):Option.casesOn (motive:=λZ=>Array α) r o g=g x:=by
 subst h;rfl
theorem Il (next:Nat->Nat)(n k:Nat)(left:List α)(out:Array α):pickOrder.go next (n+1) k left out=Option.casesOn (motive:=λZ=>Array α) left[next k % left.length]? out λx=>pickOrder.go next n (k+1) (left.eraseIdx (next k % left.length)) (out.push x):=by kernel_rfl
theorem My (next:Nat->Nat)(n:Nat):∀(k:Nat)(left:List α)(out:Array α),left.length=n->(pickOrder.go next n k left out).toList.Perm (out.toList++left):=by
 induction n with
 |zero=>exact λk left out h=>(List.length_eq_zero_iff.mp h)▸(List.append_nil out.toList).symm▸.refl _
 |succ n ih=>
  intro k left out h;have fX:next k % left.length<left.length:=Nat.mod_lt _ (h▸Nat.succ_pos n);have e:pickOrder.go next (n+1) k left out=pickOrder.go next n (k+1) (left.eraseIdx (next k % left.length)) (out.push left[next k % left.length]):=(Il next n k left out).trans (FZ _ out (List.getElem?_eq_getElem fX));refine e▸(ih (k+1) _ _ (by rw [List.length_eraseIdx_of_lt fX,h];rfl)).trans ?_;rw [Array.toList_push,List.append_assoc];exact (uB left _ (List.getElem?_eq_getElem fX)).append_left _
theorem xi (next:Nat->Nat)(xs:Array α):(pickOrder next xs).toList.Perm xs.toList:=by
 have:=My next xs.size 0 xs.toList #[] (by simp)
 simpa [pickOrder] using this
section
theorem CM (hn:n≠0)(h:∀i d,i<n->Q i {s with drawn:=d}):wpAny (model prog w) A (choose src n) Q E s:=λΓ p Z=>by
 refine (?_:Sem.wp _ _ (.choose src n .pure) _ _ _ _);simp only [Sem.wp_choose];exact ⟨hn,h _ _ (Nat.mod_lt _ (Nat.pos_of_ne_zero hn))⟩
theorem yl (n:Nat):∀(xs:List α){s:Shared}{Q:List α->Shared->Prop},xs.length=n->(∀ys d,ys.Perm xs->Q ys {s with drawn:=d})->wpAny (model prog w) A (drawOrder n xs) Q E s:=by
 induction n with
 |zero=>exact λxs s Q h hQ=>wpAny_pure (hQ [] s.drawn ((List.length_eq_zero_iff.mp h)▸.refl _))
 |succ n ih=>
  intro xs;induction xs using List.casesOn with
  |nil=>exact λh=>Nat.noConfusion h
  |cons x xs=>
   intro s Q h hQ;refine wpAny_bind (CM (by simp) λi d hi=>?_);refine (List.getElem?_eq_getElem hi)▸?_;refine wpAny_bind (ih _ (by rw [List.length_eraseIdx_of_lt hi,h];rfl) λys d' hp=>?_);exact wpAny_pure (hQ _ d' ((hp.cons _).trans (uB _ i (List.getElem?_eq_getElem hi))))
end
theorem jO:Slot "set_iterator" "__next__" "set_iterator.__next__":=
 .of (owner:="set_iterator") (n:="__next__") (by rw [typeLookup_type,builtinLookup_eq_fast];kernel_rfl) (by decide+kernel) (by decide+kernel) (by decide+kernel)
  (by first|exact .inl (by decide+kernel)|exact .inr (by decide+kernel)) (by rw [isSubtype_type];kernel_rfl)
theorem wI:entryFor table "set_iterator.__next__"=some Builtin.«set_iterator.__next__»:=entryFor_of_tree (by kernel_rfl)
theorem Ak:Manifest.owners.lookup (String.ofList ['r','o','t','a','r','e','t','i','_','t','e','s'].reverse)=some Manifest.sig_set_iterator:=by kernel_rfl
theorem ym (v:Value):argsOk "set_iterator.__next__" ⟨[v],[]⟩:=by
 unfold argsOk;rw [signature?_of (id:="set_iterator.__next__") (n:=['_','_','t','x','e','n','_','_']) (o:=['r','o','t','a','r','e','t','i','_','t','e','s']) (by kernel_rfl) Ak];kernel_rfl
theorem uC:entryFor table "set.__iter__"=some Builtin.«frozenset.__iter__»:=entryFor_alias (id':="frozenset.__iter__") (by kernel_rfl) rfl (by decide+kernel) (by kernel_rfl)
section
set_option backward.match.sparseCases true
noncomputable abbrev Im (es:Array (Int×Value))(ep:Nat)(t:SetTable):Obj:={cls:=.type "set",dict:=none,data:=.set es ep t,slots:=#[]}
noncomputable abbrev Mz (f:Value)(i:Nat)(a:Addr)(n ep:Nat):Obj:={cls:=.type "set_iterator",dict:=none,data:=.fields #[f,.int i 0,.ref a,.int n 0,.int ep 0],slots:=#[]}
section
variable {s:Shared}{es:Array (Int×Value)}
theorem Ej (ho:s.heap.get? I=some o)(hc:o.cls=.type "set_iterator")
  (h:wpAny (model prog w) A.in1 (Builtin.«set_iterator.__next__» ⟨[.ref I],[]⟩) (λfin s'=>∃v,fin=.done (.ret v)/\Q (some v) s') (λe s'=>s'.TypeIs e "StopIteration"/\Q none s') s):wpAny (model prog w) A (pyNext (.ref I)) Q E s:=by
 have hT:s.TypeIs (.ref I) "set_iterator":=⟨o,ho,hc⟩;refine wpAny_bind (wpAny_attempt (wpAny_callSpecial?_slot (name:=Str.ofString "__next__") hT jO (wpAny_call_entry jO hT wI (wpAny_mono h (λfin s' h'=>?_) λe s' h'=>?_) (ym _))))
 ·refine aQ h' λv dp hq=>?_
  subst dp;exact ⟨v,rfl,wpAny_pure hq⟩
 ·refine cX h' λZg hq=>?_
  refine wpAny_bind (wpAny_isInstance (T:="StopIteration") (b:=true) Zg isSubtype_stop ?_);exact wpAny_pure hq
theorem Al (hI:s.heap.get? I=some (Mz f i a es.size ep))(ho:s.heap.get? a=some (Im es ep t))(hf:t.fits es.size=true)
  (h:wpAny (model prog w) A (if let .int slot _:=f then do
    match <- setNext a slot.toNat i ep with
    |some (x,next)=>
     setField (.ref I) 0 (rawInt next)
     setField (.ref I) 1 (rawInt ((i:Int)+1))
     ret x
    |none=>setField (.ref I) 2 .none;raiseNew (<- newExc (.type "StopIteration") [])
   else do
    let some places <- seqItems? f|unsupported "internal:set_iterator"
    match places[i]? with
    |some (.int place _)=>
     let x <- setNextDrawn a place.toNat ep
     setField (.ref I) 1 (rawInt ((i:Int)+1))
     ret x
    |some _=>unsupported "internal:set_iterator"
    |none=>setField (.ref I) 0 (rawInt 0);setField (.ref I) 2 .none;raiseNew (<- newExc (.type "StopIteration") [])) P D s):
  wpAny (model prog w) A (Builtin.«set_iterator.__next__» ⟨[.ref I],[]⟩) P D s:=by
 refine wpAny_bind (wpAny_pure ?_);refine wpAny_bind (wpAny_fieldsOf hI rfl ?_);refine wpAny_bind (wpAny_setEntries_of ho rfl hf ?_);rw [if_neg (by simp)];exact h
end
end
section
set_option backward.match.sparseCases true
section
theorem oQ (h:Q (w.params.followText "set-order") s):wpAny (model prog w) A setsByText Q E s:=by
 exact wpAny_bind (wpAny_askSetting (wpAny_pure h))
theorem Am (bt:w.params.followText "set-order"=true)(ho:s.heap.get? a=some (Im es ep t))(hf:t.fits es.size=true)
  (h:Q (((pickOrder (w.params.setOrder a ep) es)[i]?).map λe=>(e.2,slot)) s):wpAny (model prog w) A (setNext a slot i ep) Q E s:=by
 refine wpAny_bind (wpAny_setState_of ho rfl hf ?_);dsimp only;refine wpAny_bind (oQ ?_);rw [bt,if_pos rfl,if_neg (by simp)];refine wpAny_bind ?_;refine wpAny_bind (wpAny_setState_of ho rfl hf ?_);refine wpAny_bind (oQ ?_);rw [bt,if_pos rfl];exact wpAny_bind (wpAny_askSetting (wpAny_pure (wpAny_pure h)))
theorem An (bt:w.params.followText "set-order"=false)(hp:(!t.plain&&decide (es.size>1))=false)(hl:t.led=true)(ho:s.heap.get? a=some (Im es ep t))(hf:t.fits es.size=true)
  (h:Q (match es[SetTable.below t.place slot]?,t.place[SetTable.below t.place slot]? with
   |some (_,x),some j=>some (x,j+1)
   |_,_=>none) s):wpAny (model prog w) A (setNext a slot i ep) Q E s:=by
 refine wpAny_bind (wpAny_setState_of ho rfl hf ?_);dsimp only;refine wpAny_bind (oQ ?_);rw [bt,if_neg (by simp)];refine wpAny_ite_split (λh=>absurd (hp.symm.trans h) (by simp)) λZ=>?_;refine wpAny_bind ?_;refine wpAny_ite_split (λh=>?_) λZ=>?_
 ·rw [hl] at h;simp at h
 ·exact wpAny_pure (wpAny_pure h)
theorem Io (ho:s.heap.get? a=some (Im es ep t))(hf:t.fits es.size=true)(hx:es[i]?=some (h,x))(hQ:Q x s):wpAny (model prog w) A (setNextDrawn a i ep) Q E s:=by
 refine wpAny_bind (wpAny_setState_of ho rfl hf ?_);dsimp only;rw [if_neg (by simp),hx];exact wpAny_pure hQ
theorem MA (hh:A.handled=none)(h:∀h' e,(∀b o,s.heap.get? b=some o->h'.get? b=some o)->Shared.TypeIs {s with heap:=h'} (.ref e) "StopIteration"->D (.ref e) {s with heap:=h'}):
  wpAny (model prog w) A (do raiseNew (<- newExc (.type "StopIteration") [])) Q D s:=by
 refine wpAny_bind ?_;refine wpAny_bind (wpAny_newObj_type ?_ (by size_fits));refine wpAny_bind (m:=firstArgMember _ _) (wpAny_of_eq (a:=Value.none) (by first|rfl|(simp only [firstArgMember];rfl)) ?_);refine wpAny_newObj_type ?_ (by size_fits);exact wpAny_raiseNew_none hh (h _ _ (λb o e=>Heap.get?_push_of_some _ (Heap.get?_push_of_some _ e)) ⟨_,Heap.get?_push_size _ rfl,rfl⟩)
end
end
inductive Way (w:World)(a tp:Addr)(es:Array (Int×Value))(ep:Nat)(t:SetTable)(h:Heap):(Nat->Value)->List Value->Prop
 |txt (bt:w.params.followText "set-order"=true):Way w a tp es ep t h (λZ=>.int 0 0) ((pickOrder (w.params.setOrder a ep) es).toList.map (·.2))
 |je (bt:w.params.followText "set-order"=false) (hp:(!t.plain&&decide (es.size>1))=false) (led:t.led=true) (zX:t.place.toList.Pairwise (·<·)) (sz:t.place.size=es.size):
   Way w a tp es ep t h (λi=>.int ((if i=0 then 0 else t.place.getD (i - 1) 0+1:Nat):Int) 0) (es.toList.map (·.2))
 |Rk (l:List Nat) (c:Nat) (perm:l.Perm (List.range es.size)) (tup:h.get? tp=some {cls:=.type "tuple",dict:=none,data:=.seq (l.map λ(i:Nat)=>rawInt i).toArray c,slots:=#[]}):
   Way w a tp es ep t h (λZ=>.ref tp) (l.filterMap λi=>(es[i]?).map (·.2))
def nL.ZF (w:World)(a tp I:Addr)(es:Array (Int×Value))(ep:Nat)(t:SetTable)(f:Nat->Value)(vs:List Value)(i:Nat)(h:Heap)(Z:Prop):Prop:=∀(set:h.get? a=some (Im es ep t))(it:h.get? I=some (Mz (f i) i a es.size ep))(way:Way w a tp es ep t h f vs),Z
def nL (w a tp I es ep t f vs i h):=∀Z:Prop,nL.ZF w a tp I es ep t f vs i h Z->Z
theorem nL.mk:nL.ZF w a tp I es ep t f vs i h (nL w a tp I es ep t f vs i h):=λset it way _ Z=>Z set it way
def nL.set (Z:nL w a tp I es ep t f vs i h):=Z _ λset it way=>set
def nL.it (Z:nL w a tp I es ep t f vs i h):=Z _ λset it way=>it
def nL.way (Z:nL w a tp I es ep t f vs i h):=Z _ λset it way=>way
section
variable {es:Array (Int×Value)}
theorem Way.at (W:Way w a tp es ep t h f vs)(k:∀o,h.get? tp=some o->h'.get? tp=some o):Way w a tp es ep t h' f vs:=by
 induction W with
 |txt bt=>exact .txt bt
 |je bt hp led zX sz=>exact .je bt hp led zX sz
 |Rk l c perm tup=>exact .Rk l c perm (k _ tup)
theorem Way.perm (W:Way w a tp es ep t h f vs):vs.Perm (es.toList.map (·.2)):=by
 induction W with
 |txt bt=>exact (xi _ es).map _
 |je bt hp led zX sz=>exact .refl _
 |Rk l c perm tup=>
  refine (perm.filterMap _).trans ?_;have:=PySem.filterMap_getElem?_range es;rw [<- this,List.map_filterMap]
theorem Way.len (W:Way w a tp es ep t h f vs):vs.length=es.size:=by
 simp only [W.perm.length_eq,List.length_map,Array.length_toList]
theorem MD {l':List Nat}:∀{i:Nat}{p:Nat},(∀x,x∈l'->x<es.size)->l'[i]?=some p->∃h v,es[p]?=some (h,v)/\(l'.filterMap λi=>(es[i]?).map (·.2))[i]?=some v:=by
 induction l' with
 |nil=>exact λZ h=>Ia h
 |cons x l' ih=>
  intro i p hl;have hx:=hl x (.head _);have ex:es[x]?=some es[x]:=Array.getElem?_eq_getElem hx;rw [List.filterMap_cons_some (b:=es[x].2) (by rw [ex];rfl)];exact Nat.casesOn i (λh=>⟨es[x].1,es[x].2,(congrArg (λq=>es[q]?) (Option.some.inj h).symm).trans ex,rfl⟩) λi h=>ih (i:=i) (λy hy=>hl y (.tail _ hy)) h
theorem put2 {h:Heap}{f g:Value}(hI:h.get? I=some (Mz f i a n ep)):
  ((h.update I (Obj.mapFields (·.setIfInBounds 0 g))).update I (Obj.mapFields (·.setIfInBounds 1 (rawInt ((i:Int)+1))))).get? I=some (Mz g (i+1) a n ep):=by
 have h1:(h.update I (Obj.mapFields (·.setIfInBounds 0 g))).get? I=some (Mz g i a n ep):=Heap.get?_update_self _ hI rfl;exact Heap.get?_update_self _ h1 rfl
theorem Zh {h:Heap}{f:Value}(hI:h.get? I=some (Mz f i a n ep)):
  (h.update I (Obj.mapFields (·.setIfInBounds 1 (rawInt ((i:Int)+1))))).get? I=some (Mz f (i+1) a n ep):=Heap.get?_update_self _ hI rfl
theorem MF (S:nL w a tp I es ep t f vs i s.heap)(hf:t.fits es.size=true)(Rm:I≠a)(Rn:I≠tp)(hx:vs[i]?=some v)
  (hQ:∀h',nL w a tp I es ep t f vs (i+1) h'->Heap.SameBut I s.heap h'->Q (some v) {s with heap:=h'}):wpAny (model prog w) A (pyNext (.ref I)) Q E s:=by
 refine S _ λho hI W=>?_;refine Ej hI rfl (Al hI ho hf ?_);have hi:i<es.size:=by
  simp only [<- W.len];exact Classical.byContradiction λh=>by rw [List.getElem?_eq_none (by exact Nat.le_of_not_lt ‹_›)] at hx;injection hx
 have fin2:∀g:Nat->Value,f=g->wpAny (model prog w) A.in1 (do
   setField (.ref I) 0 (g (i+1))
   setField (.ref I) 1 (rawInt ((i:Int)+1))
   ret v) (λfin s'=>∃v,fin=.done (.ret v)/\Q (some v) s') (λe s'=>s'.TypeIs e "StopIteration"/\Q none s') s:=λg e=>by
  subst e;refine wpAny_bind (wpAny_setField hI rfl (by simp) ?_);have h1:(s.heap.update I (Obj.mapFields (·.setIfInBounds 0 (f (i+1))))).get? I=some (Mz (f (i+1)) i a es.size ep):=Heap.get?_update_self _ hI rfl;refine wpAny_bind (wpAny_setField h1 rfl (by simp) (wpAny_pure ⟨v,rfl,hQ _ (.mk ?_ (put2 hI) ?_) ((Heap.SameBut.update ..).trans (Heap.SameBut.update ..))⟩))
  ·rw [Heap.get?_update_other _ _ Rm,Heap.get?_update_other _ _ Rm];exact ho
  ·exact W.at λo e=>by rw [Heap.get?_update_other _ _ Rn,Heap.get?_update_other _ _ Rn];exact e
 induction W with
 |txt bt=>
  refine wpAny_bind (Am bt ho hf ?_);have oR:∃e,(pickOrder (w.params.setOrder a ep) es)[i]?=some e/\e.2=v:=by
   replace hx:=(Array.getElem?_toList)▸(List.getElem?_map)▸hx;cases h:(pickOrder (w.params.setOrder a ep) es)[i]? with
   |none=>rw [h] at hx;injection hx
   |some e=>rw [h] at hx;exact ⟨e,rfl,Option.some.inj hx⟩
  obtain ⟨e,h1,h2⟩:=oR;rw [h1];subst h2;exact fin2 (λZ=>.int 0 0) rfl
 |je bt hp led zX sz=>
  dsimp only;rw [Int.toNat_natCast];refine wpAny_bind (An bt hp led ho hf ?_);have hb:SetTable.below t.place (if i=0 then 0 else t.place.getD (i - 1) 0+1)=i:=by
   by_cases e:i=0
   ·subst e;refine (if_pos rfl)▸?_;exact uz zX
   ·rw [if_neg e,uA zX (by omega)];omega
  rw [hb];have Cu:t.place[i]?=some (t.place.getD i 0):=by
   rw [Array.getD_eq_getD_getElem?,Array.getElem?_eq_getElem (by omega)];rfl
  simp only [List.getElem?_map,Array.getElem?_toList,Array.getElem?_eq_getElem hi] at hx;cases hx;refine (Cu)▸(Array.getElem?_eq_getElem hi)▸?_;have:=fin2 _ rfl;dsimp only at this;rw [if_neg (Nat.succ_ne_zero i)] at this;exact this
 |Rk l c perm tup=>
  refine wpAny_bind (wpAny_seqItems tup rfl ?_);dsimp only;have hl:i<l.length:=by simp only [perm.length_eq,List.length_range];exact hi
  have uD:∀x,x∈l->x<es.size:=λx hx=>List.mem_range.mp (perm.mem_iff.mp hx);obtain ⟨h,v',h1,h2⟩:=MD uD (List.getElem?_eq_getElem hl);replace h2:=(hx)▸h2;cases h2;refine (List.getElem?_toArray)▸(List.getElem?_map)▸(List.getElem?_eq_getElem hl)▸?_;refine wpAny_bind (Io (h:=h) (x:=v) ho hf h1 ?_);refine wpAny_bind (wpAny_setField hI rfl (by simp) (wpAny_pure ⟨v,rfl,hQ _ (.mk ?_ (Zh hI) ?_) (Heap.SameBut.update ..)⟩))
  ·rw [Heap.get?_update_other _ _ Rm];exact ho
  ·exact .Rk l c perm (by rw [Heap.get?_update_other _ _ Rn];exact tup)
end
section
theorem MG (hh:A.handled=none)(S:nL w a tp I es ep t f vs es.size s.heap)(hf:t.fits es.size=true)
  (hQ:∀h',(∀b o,b≠I->s.heap.get? b=some o->h'.get? b=some o)->Q none {s with heap:=h'}):wpAny (model prog w) A (pyNext (.ref I)) Q E s:=by
 refine S _ λho hI W=>?_;refine Ej hI rfl (Al hI ho hf ?_);have stop:∀(x:Nat)(s1:Shared)(fs:Array Value),(∀b o,b≠I->s.heap.get? b=some o->s1.heap.get? b=some o)->s1={s with heap:=s1.heap}->s1.heap.get? I=some {cls:=.type "set_iterator",dict:=none,data:=.fields fs,slots:=#[]}->2<fs.size->
   wpAny (model prog w) A.in1 (do setField (.ref I) 2 .none;raiseNew (<- newExc (.type "StopIteration") [])) (λfin s'=>∃v,fin=PySem.Fin.done (.ret v)/\Q (some v) s') (λe s'=>s'.TypeIs e "StopIteration"/\Q none s') s1:=λx s1 fs hk e1 Ve Ah=>by
  refine wpAny_bind (wpAny_setField Ve rfl Ah ?_);refine MA hh λh' e wz hT=>⟨hT,?_⟩;have:=hQ h' λb o hb e=>wz b o (by rw [Heap.get?_update_other _ _ (Ne.symm hb)];exact hk b o hb e);refine (e1)▸?_;exact this
 induction W with
 |txt bt=>
  refine wpAny_bind (Am bt ho hf ?_);have:(pickOrder (w.params.setOrder a ep) es)[es.size]?=none:=by
   rw [Array.getElem?_eq_none];have:=(xi (w.params.setOrder a ep) es).length_eq;rw [Array.length_toList,Array.length_toList] at this;omega
  refine (this)▸?_;exact stop 0 s _ (λb o Z e=>e) rfl hI (by simp)
 |je bt hp led zX sz=>
  dsimp only;rw [Int.toNat_natCast];refine wpAny_bind (An bt hp led ho hf ?_);have hb:SetTable.below t.place (if es.size=0 then 0 else t.place.getD (es.size - 1) 0+1)=es.size:=by
   by_cases e:es.size=0
   ·rw [if_pos e,uz zX];exact e.symm
   ·rw [if_neg e,uA zX (by omega)];omega
  rw [hb,Array.getElem?_eq_none (Nat.le_refl _)];exact stop 0 s _ (λb o Z e=>e) rfl hI (by simp)
 |Rk l c perm tup=>
  refine wpAny_bind (wpAny_seqItems tup rfl ?_);dsimp only;have hl:l.length=es.size:=by rw [perm.length_eq,List.length_range]
  rw [List.getElem?_toArray,List.getElem?_map,List.getElem?_eq_none (by omega)];refine wpAny_bind (wpAny_setField hI rfl (by simp) ?_);exact stop 0 _ _ (λb o hb e=>by rw [Heap.get?_update_other _ _ (Ne.symm hb)];exact e) rfl (Heap.get?_update_self _ hI rfl) (by simp)
theorem qY:Slot "set_iterator" "__iter__" "set_iterator.__iter__":=
 .of (owner:="set_iterator") (n:="__iter__") (by rw [typeLookup_type,builtinLookup_eq_fast];kernel_rfl) (by decide+kernel) (by decide+kernel) (by decide+kernel)
  (by first|exact .inl (by decide+kernel)|exact .inr (by decide+kernel)) (by rw [isSubtype_type];kernel_rfl)
theorem wJ:entryFor table "set_iterator.__iter__"=some Builtin.«dict_keyiterator.__iter__»:=entryFor_alias (id':="dict_keyiterator.__iter__") (by kernel_rfl) rfl (by decide+kernel) (by kernel_rfl)
theorem yn (v:Value):argsOk "set_iterator.__iter__" ⟨[v],[]⟩:=by
 unfold argsOk;rw [signature?_of (id:="set_iterator.__iter__") (n:=['_','_','r','e','t','i','_','_']) (o:=['r','o','t','a','r','e','t','i','_','t','e','s']) (by kernel_rfl) Ak];kernel_rfl
theorem Walks.set (hh:A.handled=none)(hf:t.fits es.size=true)(Rm:I≠a)(Rn:I≠tp):Walks prog w A I [I,a,tp] [I] es.size (λi v=>vs[i]?=some v) (λi h=>nL w a tp I es ep t f vs i h) where
 sub:=λb hb=>by simp at hb;simp [hb]
 frame:=λZ Z Z st hk=>(.mk (hk a (by simp) _ st.set) (hk I (by simp) _ st.it) (st.way.at λo e=>hk tp (by simp) o e))
 item:=λi s Q E hi st hQ=>by
  have hl:=st.way.len;refine MF st hf Rm Rn (v:=vs[i]) (by rw [List.getElem?_eq_getElem]) λh' st' qm=>hQ _ h' s.toks (by rw [List.getElem?_eq_getElem]) st' λb o hb e=>qm.extBut b o (λh=>hb (by simp [h])) e
 done:=λs Q E st hQ=>MG hh st hf λh' hk=>hQ h' s.toks λb o hb e=>hk b o (λh=>hb (by simp [h])) e
 self:=λZ Z Z Z st hQ=>by
  have hT:Shared.TypeIs _ (.ref I) "set_iterator":=⟨_,st.it,rfl⟩;refine wpAny_pyIter_slot hT qY (wpAny_call_entry qY hT wJ ?_ (yn _));exact wpAny_pure ⟨_,rfl,"set_iterator",_,hT,jO.lookup,hQ⟩
theorem Ip (hJ:j7 prog w s.heap a ks)(hk:ks.length+1<scanBound)
  (hQ:∀h' d I tp es ep t f vs is,nL w a tp I es ep t f vs 0 h'->t.fits es.size=true->s.heap.objs.size<=I->I≠tp->(tp=a\/s.heap.objs.size<=tp)->es.size=ks.length->IntsAre vs is->is.Perm ks->(∀b o,s.heap.get? b=some o->h'.get? b=some o)->Q (.ref I) {s with heap:=h',drawn:=d}):
  wpAny (model prog w) A (pyIter (.ref a)) Q E s:=by
 refine hJ _ λes ep t is ho wy hi hp hf J=>?_;have hT:s.TypeIs (.ref a) "set":=⟨_,ho,rfl⟩;have Vb:a<s.heap.objs.size:=Heap.lt_size ho;have Ah:es.size=ks.length:=by
  have:=PyProof.Rows.IntsAre.length hi;rw [List.length_map,Array.length_toList] at this;rw [this,hp.length_eq]
 have Ro:t.place.size=es.size:=by
  simp only [SetTable.fits,Bool.and_eq_true,beq_iff_eq] at hf;exact hf.1
 have fin:∀{h':Heap}{d}{tp:Addr}{f:Nat->Value}{vs:List Value},Way w a tp es ep t h' f vs->(∀b o,s.heap.get? b=some o->h'.get? b=some o)->s.heap.objs.size<=h'.objs.size->(tp=a\/s.heap.objs.size<=tp/\tp<h'.objs.size)->
   Q (.ref h'.objs.size) {s with heap:=h'.push (Mz (f 0) 0 a es.size ep),drawn:=d}:=λ{h' d tp f vs} W hk hle Rp=>by
  refine aQ (sj W.perm hi) λQd h1 h2=>?_;refine hQ _ d h'.objs.size tp es ep t f vs Qd (.mk (Heap.get?_push_of_some _ (hk a _ ho)) (Heap.get?_push_size _ rfl) (W.at λo e=>Heap.get?_push_of_some _ e)) hf hle ?_ (Rp.imp id λh=>h.1) Ah h1 (h2.trans hp) λb o e=>Heap.get?_push_of_some _ (hk b o e);rcases Rp with rfl|⟨_,h⟩
  ·exact Nat.ne_of_gt (Nat.lt_of_lt_of_le Vb hle)
  ·exact Nat.ne_of_gt h
 refine wpAny_pyIter_slot hT PySem.F.slot_set_iter (wpAny_call_entry PySem.F.slot_set_iter hT uC ?_ (PySem.F.args_set_iter_1 _));delta Builtin.«frozenset.__iter__» Builtin.Frozenset.slot0 slotArgs;simp only [List.isEmpty_nil,Bool.not_true,Bool.false_eq_true,↓reduceIte,bind_assoc,List.length_nil,bne_self_eq_false];refine wpAny_bind (wpAny_pure ?_);refine wpAny_bind (wpAny_pure ?_);refine wpAny_bind (wpAny_bind (wpAny_setEntries_of ho rfl hf (wpAny_pure ?_)));refine wpAny_bind ?_;refine wpAny_bind (wpAny_setState_of ho rfl hf ?_);refine wpAny_bind (oQ ?_);refine wpAny_pure ?_;have last:∀{h':Heap}{d}{tp:Addr}{f:Nat->Value}{vs:List Value},Way w a tp es ep t h' f vs->(∀b o,s.heap.get? b=some o->h'.get? b=some o)->s.heap.objs.size<=h'.objs.size->(tp=a\/s.heap.objs.size<=tp/\tp<h'.objs.size)->
   wpAny (model prog w) A.in1 (do
    let ep <- setEpoch a
    ret (<- newFields "set_iterator" [f 0,rawInt 0,.ref a,rawInt es.size,rawInt ep]))
    (λfin s'=>∃v,fin=.done (.ret v)/\∃T' r,s'.TypeIs v T'/\typeLookup (.type T') "__next__"=pure (some r)/\Q v s') E {s with heap:=h',drawn:=d}:=λ{h' d tp f vs} W hk hle Rp=>by
  refine wpAny_bind (wpAny_setEpoch_of (s:={s with heap:=h',drawn:=d}) (hk a _ ho) rfl hf ?_);exact wpAny_bind (wpAny_newObj_type (wpAny_pure ⟨_,rfl,"set_iterator",_,⟨_,Heap.get?_push_size _ rfl,rfl⟩,jO.lookup,fin W hk hle Rp⟩))
 induction hb:w.params.followText "set-order" with
 |true=>
  have W:Way w a a es ep t s.heap _ _:=.txt hb;have z:=last (d:=s.drawn) W (λZ Z e=>e) (Nat.le_refl _) (.inl rfl);exact z
 |false=>
  have hl:t.led=true:=by rw [J.led,hb];rfl
  cases hd:(!t.plain&&decide (es.size>1)) with
  |false=>
   refine wpAny_ite_split (λh=>absurd (hd.symm.trans h) (by simp)) λZ=>?_;have W:Way w a a es ep t s.heap _ _:=.je hb hd hl J.zX Ro;have z:=last (d:=s.drawn) W (λZ Z e=>e) (Nat.le_refl _) (.inl rfl);exact z
  |true=>
   refine wpAny_ite_split (λZ=>?_) (λh=>absurd hd h);refine wpAny_bind (yl es.size (List.range es.size) List.length_range λl d hl=>?_);refine wpAny_bind (wpAny_newTuple ?_ ?_)
   ·have W:Way w a s.heap.objs.size es ep t (s.heap.push {cls:=.type "tuple",data:=.seq (l.map λ(i:Nat)=>rawInt i).toArray}) _ _:=.Rk l 0 hl (Heap.get?_push_size _ rfl)
    have z:=last (d:=d) W (λb o e=>Heap.get?_push_of_some _ e) (by rw [Heap.size_push];exact Nat.le_succ _) (.inr ⟨Nat.le_refl _,by rw [Heap.size_push];exact Nat.lt_succ_self _⟩);exact z
   ·rw [List.length_map,hl.length_eq,List.length_range,Ah]
    exact Nat.le_trans (Nat.le_succ _) (fits_of_scanBound hk)
end
section
set_option backward.match.sparseCases true
section
theorem Iq (hT:s.TypeIs (.ref a) "set")(h:Q false s):wpAny (model prog w) A (Builtin.List.listLengthHint (.ref a)) Q E s:=by
 refine wpAny_bind (wpAny_specialOf hT PySem.F.slot_set_len.lookup ?_);generalize Qg:("set.__len__":String)=id0
 wp_delta
 refine (show splitId id0=some ("set","__len__") from by subst Qg;decide+kernel)▸?_;subst Qg;refine wpAny_bind (wpAny_isInstance (T:="set") (b:=true) hT (by rw [isSubtype_type];kernel_rfl) ?_);refine wpAny_ite_split (λHO=>absurd HO (by decide)) (λZ=>?_);refine wpAny_ite_split (λZ=>?_) (λHO=>absurd (by decide+kernel) HO);refine wpAny_bind (wpAny_typeOf hT ?_);exact wpAny_pure h
theorem Ao (hh:A.handled=none)(hJ:j7 prog w s.heap a ks)(hk:ks.length+1<scanBound)
  (h:∀h' d tk vs is,IntsAre vs is->is.Perm ks->s.heap.objs.size<=h'.objs.size->(∀b o,s.heap.get? b=some o->h'.get? b=some o)->Q vs {s with heap:=h',drawn:=d,toks:=tk}):wpAny (model prog w) A (collect (.ref a)) Q E s:=by
 have Vb:@LT.lt Nat _ a s.heap.objs.size:=by refine hJ _ λ_ _ _ _ ho _ _ _ _ _=>?_;exact Heap.lt_size ho
 refine wpAny_bind (wpAny_runValue (codeAny_builtin PySem.F.entry_proto_collect ?_));refine (Around.under_plainId PySem.F.plain_proto_collect _)▸?_;refine (?_:wpAny _ A.in1 (newList [] >>= λl=>again (.builtin "list.__iadd__" ⟨[l,.ref a],[]⟩)) _ _ s);refine wpAny_bind (wpAny_newObj_type ?_);refine wpAny_pure ⟨plainId_quiet PySem.F.plain_list_iadd _,codeAny_builtin PySem.F.entry_list_iadd ?_⟩;refine (Around.under_plainId PySem.F.plain_list_iadd _)▸?_;have push:∀b o,s.heap.get? b=some o->(s.heap.push {cls:=.type "list",data:=.seq ([]:List Value).toArray}).get? b=some o:=λb o e=>Heap.get?_push_of_some _ e;have hS:(s.heap.push {cls:=.type "list",data:=.seq ([]:List Value).toArray}).get? s.heap.objs.size=some {cls:=.type "list",data:=.seq ([]:List Value).toArray}:=Heap.get?_push_size _ rfl;refine (?_:wpAny _ A.in1 (Builtin.List.listExtendWith (.ref s.heap.objs.size) (.ref a) (.ref s.heap.objs.size)) _ _ _);have Zi:=hJ.at λo e=>push a o e;generalize (s.heap.push {cls:=.type "list",data:=.seq ([]:List Value).toArray})=h1 at push hS Zi ⊢;have acW:s.heap.objs.size<h1.objs.size:=Heap.lt_size hS;have hT:∀(s1:Shared),j7 prog w s1.heap a ks->s1.TypeIs (.ref a) "set":=λs1 hj=>by refine hj _ λ_ _ _ _ ho _ _ _ _ _=>?_;exact ⟨_,ho,rfl⟩
 refine wpAny_bind (wpAny_typeOf (T:="set") (hT {s with heap:=h1} Zi) ?_);have e1:Builtin.List.listSameRef (.ref s.heap.objs.size) (.ref a)=false:=by simp [Builtin.List.listSameRef,Nat.ne_of_gt Vb]
 have e2:(Value.type "set"==Value.type "list")=false:=by decide
 have e3:(Value.type "set"==Value.type "tuple")=false:=by decide
 simp only [e1,e2,e3,Bool.or_false,Bool.false_eq_true,if_false];refine wpAny_bind (Ip (s:={s with heap:=h1}) Zi hk λh2 d I tp es ep t f vs is St hf hI Rn Rp Ah hi hp xj=>?_);have hI:@LE.le Nat _ h1.objs.size I:=hI;have Rp:@Eq Nat tp a\/@LE.le Nat _ h1.objs.size tp:=Rp;have Rh:s.heap.objs.size∉[I,a,tp]:=by
  simp only [List.mem_cons,List.not_mem_nil,or_false,not_or];refine ⟨?_,?_,?_⟩<;>(show ¬@Eq Nat _ _;omega)
 have Rm:I≠a:=by show ¬@Eq Nat _ _;omega
 refine wpAny_bind (wpAny_holding (Iq ⟨_,St.set,rfl⟩ ?_));have go:∀(h3:Heap)(c:Nat),nL w a tp I es ep t f vs 0 h3->(∀b o,b≠s.heap.objs.size->h2.get? b=some o->h3.get? b=some o)->h3.get? s.heap.objs.size=some {cls:=.type "list",dict:=none,data:=.seq #[] c,slots:=#[]}->
   codeAny (model prog w) A (.builtin "list.extend.loop" ⟨[.ref s.heap.objs.size,.ref I,.ref s.heap.objs.size],[]⟩) (λr s'=>r=.ok (.ret (.ref s.heap.objs.size))/\wpAny (model prog w) A (do match (<- load s.heap.objs.size).data with
     |.seq xs _=>pure xs.toList
     |_=>unsupported "internal:collect") Q E s') {s with heap:=h3,drawn:=d}:=λh3 c st3 Ir Ct=>by
  refine codeAny_extend_loopS (Walks.set (A:=A.in1) hh hf Rm Rn).toS (by rw [Ah];exact Nat.le_trans (Nat.le_succ _) (fits_of_scanBound hk)) s.heap.objs.size Rh _ es.size 0 _ #[] c rfl (Nat.zero_le _) st3 Ct (ItemsOf.nil _) λs' acc c' hm iP Vf=>?_;refine ⟨rfl,wpAny_bind (wpAny_load iP (wpAny_pure ?_))⟩;have j0:acc.toList=vs:=by
   refine List.ext_getElem? λj=>?_;rw [Array.getElem?_toList];by_cases hj:j<acc.size
   ·rw [Array.getElem?_eq_getElem hj]
    exact (Vf.2 j _ (Array.getElem?_eq_getElem hj)).symm
   ·rw [Array.getElem?_eq_none (by omega),List.getElem?_eq_none]
    simp only [St.way.len,<- Vf.1];omega
  rw [j0,Moved.eq_with hm];refine h s'.heap d s'.toks vs is hi hp (Nat.le_of_lt (Heap.lt_size iP)) λb o e=>?_;have hb:=Heap.lt_size e;refine hm.heap b o (λuD=>?_) (Ir b o (Nat.ne_of_lt hb) (xj b o (push b o e)));rcases List.mem_cons.mp uD with e'|uD
  ·exact absurd hb (by rw [e'];exact Nat.lt_irrefl _)
  ·rw [List.mem_singleton.mp uD] at hb
   have hb:@LT.lt Nat _ I s.heap.objs.size:=hb;omega
 have Ai:=xj _ _ hS;refine wpAny_ite_split (λZ=>?_) λZ=>?_
 ·refine wpAny_bind (wpAny_rule ?_)
  refine wpAny_bind ?_;refine wpAny_bind (wpAny_updateSeq Ai rfl ?_);have Ct:=Heap.get?_update_self (Obj.mapSeq (·.push Value.none)) Ai rfl;refine wpAny_updateSeq Ct rfl ?_;have Zj:=Heap.get?_update_self (Obj.mapSeq (·.pop)) Ct rfl;have Yk:∀b o,b≠s.heap.objs.size->h2.get? b=some o->((h2.update s.heap.objs.size (Obj.mapSeq (·.push Value.none))).update s.heap.objs.size (Obj.mapSeq (·.pop))).get? b=some o:=
   λb o hb e=>(Heap.get?_update_other _ _ (Ne.symm hb)).trans ((Heap.get?_update_other _ _ (Ne.symm hb)).trans e)
  refine wpAny_pure ⟨plainId_quiet PySem.F.plain_extend_loop _,codeAny_mono (go _ _ (.mk (Yk _ _ (λe=>Rh (by rw [e];simp)) St.set) (Yk _ _ (λe=>Rh (by rw [e];simp)) St.it) (St.way.at λo e=>Yk _ _ (λe=>Rh (by refine (e)▸?_;simp)) e)) Yk Zj) λr s' ⟨hr,hw⟩=>by subst hr;exact hw⟩
 ·exact wpAny_pure ⟨plainId_quiet PySem.F.plain_extend_loop _,codeAny_mono (go h2 _ St (λZ Z Z e=>e) Ai) λr s' ⟨hr,hw⟩=>by subst hr;exact hw⟩
end
end
section
theorem CN (hh:A.handled=none)(hJ:j7 prog w s.heap a ks)(h64:ks.length<64)
  (hQ:∀h' d tk r out is e,IntsAre out.toList is->is.Perm ks->is.Pairwise (·<=·)->s.heap.objs.size<=r->h'.get? r=some (seqObj "list" out e)->(∀b o,s.heap.get? b=some o->h'.get? b=some o)->Q (.ref r) {s with heap:=h',drawn:=d,toks:=tk}):
  wpAny (model prog w) A (call (.builtin "sorted") [.ref a]) Q E s:=by
 refine Calls.call_function_entry kind_sorted plain_sorted entry_sorted (args_sorted1 _) ?_;refine wpAny_bind (m:=checkCount "sorted" 1 1 _) (wpAny_pure ?_);have L5:ks.length+1<scanBound:=by
  have:scanBound=4096:=rfl;exact Nat.lt_of_le_of_lt ‹_› (by decide)
 refine wpAny_bind (Ao hh hJ L5 λh1 d tk vs is hi hp hle hk=>?_);have Yl:vs.length=ks.length:=by rw [PyProof.Rows.IntsAre.length hi,hp.length_eq]
 refine wpAny_bind (wpAny_newList ?_);have Zk:(h1.push (seqObj "list" vs.toArray 0)).get? h1.objs.size=some (seqObj "list" vs.toArray 0):=Heap.get?_push_size _ rfl;refine wpAny_bind (wpAny_holding (wpAny_call_entry slot_list_sort ⟨_,Zk,rfl⟩ entry_list_sort (list_sort_tree Zk hi (by omega) λout sf a1 a2 a3=>⟨_,rfl,?_⟩) (args_list_sort _)));obtain ⟨e,he⟩:=sortedHeap_at (out:=out) Zk;refine wpAny_pure ⟨_,rfl,hQ _ d tk h1.objs.size out sf e a1 (a2.trans hp) a3 hle he λb o hb=>?_⟩;have fX:=Heap.lt_size (hk b o hb);rw [sortedHeap_old (Nat.ne_of_lt fX) (by rw [Heap.size_push];exact Nat.lt_succ_of_lt fX)];exact Heap.get?_push_of_some _ (hk b o hb)
end
section
set_option backward.match.sparseCases true
noncomputable def qZ:List String:=["bytearray.__contains__","bytearray.__mod__","bytearray.__rmod__","_struct.pack_into.held","bytearray.find.held"]++Builtin.Bytes.decodersThatHold
noncomputable def iu:Code->Bool
 |.builtin id _=>!qZ.contains id
 |_=>true
def Cl (Γ:PySem.Ctx):Prop:=iu Γ.code=true/\∀x∈Γ.below,iu x.1=true
theorem Cl.enter (h:Cl Γ)(hc:iu c=true):Cl (Γ.enter c hd p):=
 ⟨hc,λx hx=>by
  rcases List.mem_cons.mp hx with rfl|hx
  ·exact h.1
  ·exact h.2 x hx⟩
theorem Cl.goto (h:Cl Γ)(hc:iu c=true):Cl (Γ.goto c):=⟨hc,h.2⟩
def ey {α:Type}(M:Model)(A:Around)(t:Sem α)(Q:α->Shared->Prop)(E:SP)(s:Shared):Prop:=
 ∀(Γ:PySem.Ctx) p,Γ.In A->Cl Γ->Sem.wp M Γ t (λa Z s'=>Q a s') (λe Z s'=>E e s') p s
def e9 (M:Model)(A:Around)(c:Code)(R:Result->Shared->Prop)(s:Shared):Prop:=
 ∀(Γ:PySem.Ctx) p,Γ.code=c->Γ.Below A->Cl Γ->wpCode M Γ R p s
section
theorem j9 (h:wpAny M A t Q E s):ey M A t Q E s:=λΓ p pJ Z=>h Γ p pJ
theorem cK (h:Q a s):ey M A (pure a) Q E s:=λZ Z Z Z=>h
theorem bN (h:ey M A t Q E s)(hQ:∀a s,Q a s->Q' a s) (hE:∀e s,E e s->E' e s):ey M A t Q' E' s:=
 λΓ p pJ hc=>Sem.wp_mono M Γ t (λa Z s=>hQ a s) (λe Z s=>hE e s) p s (h Γ p pJ hc)
theorem dg (h:ey M A m (λa s'=>ey M A (f a) Q E s') E s):ey M A (m >>= f) Q E s:=λΓ p pJ hc=>by
 simp only [Sem.wp_bind'];exact Sem.wp_mono M Γ m (λa p' s' h'=>h' Γ p' pJ hc) (λZ Z Z h'=>h') p s (h Γ p pJ hc)
theorem aE (h:wpAny M A m (λa s'=>ey M A (f a) Q E s') E s):ey M A (m >>= f) Q E s:=dg (j9 h)
theorem nM (h:ey M A m Q (λe s'=>ey M A (k e) (λZ CL=>E e CL) E s') s):ey M A (m.onRaise k) Q E s:=λΓ p pJ hc=>by
 simp only [Sem.wp_onRaise];exact Sem.wp_mono M Γ m (λZ Z Z h'=>h') (λe p' s' h'=>h' Γ p' pJ hc) p s (h Γ p pJ hc)
theorem ji (h:ey M A m Q E s):ey M A (holding vs m) Q E s:=
 λΓ p pJ hc=>by simp only [Sem.wp_holding];exact h Γ p pJ hc
theorem Ap {m:Sem α}(h:ey M A m (λa=>Q (.ok a)) (λe=>Q (.error e)) s):ey M A m.attempt Q E s:=λΓ p pJ hc=>by simp only [Sem.wp_attempt];exact h Γ p pJ hc
theorem Iu (h:codeAny M A c R s):e9 M A c R s:=λΓ p hc pJ Z=>h Γ p hc pJ
theorem kb (h:e9 M A c R s)(hR:∀r s,R r s->R' r s):e9 M A c R' s:=
 λΓ p hc pJ hk=>wpCode_mono hR (h Γ p hc pJ hk)
theorem MH (hk:iu c=true)(hc:e9 M (A.mark h) c (λr s'=>match r with|.ok f=>Q f s'|.error e=>E e s') s) (Ek:h≠some byPass):
  ey M A (run c h) Q E s:=λΓ p pJ wz=>by rw [Sem.wp_run];exact hc _ p rfl (pJ.enter c h p Ek) (wz.enter hk)
theorem yo (hk:iu c=true)(hc:e9 M A c (λr s'=>match r with|.ok (.ret v)=>Q v s'|.ok _=>False|.error e=>E e s') s):
  ey M A (runValue c) Q E s:=λΓ p pJ wz=>by rw [Sem.wp_runValue];exact hc _ p rfl (pJ.enter c none p (by intro x;injection x)) (wz.enter hk)
theorem lJ (hc:e9 M A (.call f ⟨pos,kw⟩) (λr s'=>match r with|.ok (.ret v)=>Q v s'|.ok _=>False|.error e=>E e s') s):ey M A (call f pos kw) Q E s:=yo rfl hc
theorem d4
  (h:ey M (A.under c) (M.den c) (λfin s'=>match fin with|.done f=>R (.ok f) s'|.again c'=>c'.quiet=true/\iu c'=true/\e9 M A c' R s') (λe s'=>R (.error e) s') s):e9 M A c R s:=λΓ p hc pJ hk=>by
 rw [wpCode_iff_wp,hc];refine Sem.wp_mono M Γ _ (λfin p' s' h'=>?_) (λZ Z Z h'=>h') p s (h Γ p (hc▸pJ.in) hk);induction fin with
 |done f=>exact h'
 |again c'=>exact ⟨h'.1,h'.2.2 (Γ.goto c') p' rfl (pJ.goto c') (hk.goto h'.2.1)⟩
theorem lh {id:String}(hb:entryFor table id=some b)
  (h:ey (model prog w) (A.under (.builtin id args)) (b args) (λfin s'=>match fin with|.done f=>R (.ok f) s'|.again c'=>c'.quiet=true/\iu c'=true/\e9 (model prog w) A c' R s') (λe s'=>R (.error e) s') s):
  e9 (model prog w) A (.builtin id args) R s:=by
 refine d4 ?_;refine (?_:ey _ _ (match entryFor table id with|some b=>b args|none=>unsupported ((withoutEnding? id "#data").getD id)) _ _ s);refine (hb)▸?_;exact h
theorem qo {id:String}(hq:plainId id=true)(hk:iu (.builtin id args)=true)(hb:entryFor table id=some b)
  (h:ey (model prog w) A.in1 (checkBuiltinCall id args) (λZ ba=>ey (model prog w) A.in1 (b args)
   (λfin s'=>match fin with|.done f=>R (.ok f) s'|.again c'=>c'.quiet=true/\iu c'=true/\e9 (model prog w) A c' R s') (λe s'=>R (.error e) s') ba)
   (λe s'=>R (.error e) s') s):e9 (model prog w) A (.call (.builtin id) args) R s:=by
 refine d4 ?_;show ey _ A.in1 (do checkBuiltinCall id args;again (.builtin id args)) _ _ s;refine dg (bN h (λZ ba h₁=>cK ⟨plainId_quiet hq args,hk,lh hb ?_⟩) λZ Z h'=>h');refine (Around.under_plainId hq args)▸?_;exact h₁
theorem uE
  (h:ey (model prog w) (A.deeper env) (execs body env) (λf s'=>R (.ok (.ret (match f with|.ret v=>v|_=>.none))) s')
   (λe s'=>ey (model prog w) (A.deeper env) (leaving env e) (λZ CL=>R (.error e) CL) (λe' CL=>R (.error e') CL) s') s):
  e9 (model prog w) A (.func body env) R s:=by
 refine d4 ?_;show ey _ (A.deeper env) (do point;match <- (execs body env).onRaise (leaving env) with|.ret v=>ret v|_=>ret .none) _ _ s;refine aE (wpAny_point (dg (nM (bN h (λf s' h'=>?_) λZ Z h'=>h'))));induction f<;>exact cK h'
theorem jG (Ag:A.depth<recursionLimit)
  (ho:s.heap.get? a=some o)(Iv:o.data=.func fd)(Zl:fd.scope.isCoroutine=false)(Rq:fd.scope.isGenerator=false)(uF:fd.body=.stmts body)(Vg:s.heap.CodeRec fd.code fd.qualname)
  (h:wpAny (model prog w) A.in1 (bindArgs fd args) (λbinds ba=>
   wpAny (model prog w) A.in1 (newFunctionEnv fd.scope fd.globals fd.closure binds (fd.qualname++".<locals>.") (some a) fd.code none fd.builtins)
    (λenv kK=>kK.heap.NoLimit/\e9 (model prog w) A (.func body env) R kK) (λe s'=>R (.error e) s') ba) (λe s'=>R (.error e) s') s):
  e9 (model prog w) A (.call (.ref a) args) R s:=by
 refine d4 ?_;refine (?_:ey _ A.in1 (callAny (.ref a) args) _ _ s);refine aE (wpAny_load ho ?_);refine uy Vg λc oc vs tq hc hoc wK hq=>?_;simp only [Iv,callFunction,Zl,Rq,uF,hc];rw [hc] at h;refine aE (m:=field (.ref c) 1) (wpAny_field hoc wK hq (aE (wpAny_pure ?_)));exact aE (wpAny_mono h (λbinds ba h₁=>aE (wpAny_mono h₁ (λenv kK tY=>aE (wpAny_enterFrame tY.1 Ag
  (cK ⟨rfl,rfl,tY.2⟩))) λZ Z h'=>h')) λZ Z h'=>h')
end
end
theorem CP:mroOf (.type "bytearray")=pure [.type "bytearray",.type "object"]:=by rw [mroOf_type];kernel_rfl
theorem wL:typeLookup (.type "bytearray") "__new__"=pure (some (.builtin "bytearray.__new__")):=by rw [typeLookup_type,builtinLookup_eq_fast];kernel_rfl
theorem jP:Slot "bytearray" "__init__" "bytearray.__init__":=
 .of (owner:="bytearray") (n:="__init__") (by rw [typeLookup_type,builtinLookup_eq_fast];kernel_rfl) (by decide+kernel) (by decide+kernel) (by decide+kernel)
  (by first|exact .inl (by decide+kernel)|exact .inr (by decide+kernel)) (by rw [isSubtype_type];kernel_rfl)
theorem oS:TypeCalled "bytearray" "bytearray.__new__" "bytearray.__init__":=
 ⟨by decide+kernel,by decide+kernel,⟨_,_,CP⟩,madeBy_type CP wL (by decide+kernel),by decide+kernel,by rw [isSubtype_type];kernel_rfl,jP⟩
theorem Aq (a:Value):checkTypeCall "bytearray" ⟨[a],[]⟩=pure ():=by kernel_rfl
theorem CQ (a:Value):checkBuiltinCall "bytearray.__new__" ⟨[.type "bytearray",a],[]⟩=pure ():=by kernel_rfl
theorem q0:plainId "bytearray.__new__"=true:=by decide+kernel
theorem yp:entryFor table "bytearray.__new__"=some Builtin.«list.__new__»:=
 entryFor_alias (id':="list.__new__") (by kernel_rfl) (by decide+kernel) (by decide+kernel) (by kernel_rfl)
theorem wM:entryFor table "bytearray.__init__"=some Builtin.«bytearray.__init__»:=by first|exact entryFor_of_fast (by kernel_rfl)|exact entryFor_of_tree (by kernel_rfl)
theorem Iw:isSubtype (.type "bytearray") (.type "bytearray")=pure true:=by rw [isSubtype_type];kernel_rfl
theorem MJ (v:Value):Builtin.Bytes.bindOptional "bytearray.__init__" "bytearray" ["source","encoding","errors"] [v] []=pure [some v,none,none]:=by kernel_rfl
theorem CR:typeLookup (.type "bytearray") "__release_buffer__"=pure (some (.builtin "bytearray.__release_buffer__")):=by rw [typeLookup_type,builtinLookup_eq_fast];kernel_rfl
theorem Ar:("bytearray.__new__".splitOn ".__new__").headD ""="bytearray":=congrArg (λl:List String=>l.headD "") PySem.W.split_bytearray
section
theorem Iy (hc:c=false)(h:wpAny M A b Q E s):wpAny M A (if c=true then a else b) Q E s:=by
 subst hc;exact h
theorem Rr (e:t=t')(h:wpAny M A t' Q E s):wpAny M A t Q E s:=e▸h
theorem Rt (a:Value)
  (h:Q₁ (.ref s.heap.objs.size) {s with heap:=s.heap.push {cls:=.type "bytearray",data:=.bytearray #[]}}):
  codeAny (model prog w) A (.call (.builtin "bytearray.__new__") ⟨[.type "bytearray",a],[]⟩) (wants Q₁ E) s:=by
 refine PySem.codeAny_of_tree ?_;show wpAny _ A.in1 (do checkBuiltinCall "bytearray.__new__" ⟨[.type "bytearray",a],[]⟩;again (.builtin "bytearray.__new__" ⟨[.type "bytearray",a],[]⟩)) _ _ s;refine wpAny_bind (wpAny_of_eq (CQ a) (wpAny_pure ⟨plainId_quiet q0 _,codeAny_builtin_stack yp rfl λp st=>?_⟩));refine (Around.under_plainId q0 _)▸?_;refine wpAny_bind (wpAny_of_eq (a:=true) rfl ?_);refine Iy rfl ?_;refine wpAny_bind (wpAny_of_eq (a:=true) (by rw [Ar];exact Iw) ?_);refine Iy rfl ?_;refine Rr (t':=newObj (.type "bytearray") (.bytearray #[]) >>= λv=>ret v) ?_ ?_
 ·dsimp only
  rw [Ar]
  kernel_rfl
 refine wpAny_bind (wpAny_newObj_type ?_);exact wpAny_pure h
end
theorem Ru (h:Cl Γ):∀x∈(Γ.code,p)::Γ.below,iu x.1=true:=λx hx=>by
 rcases List.mem_cons.mp hx with rfl|hx
 ·exact h.1
 ·exact h.2 x hx
theorem oT {id k:String}(h:qZ.contains id=false)(hk:qZ.contains k=true):¬id=k:=λe=>by rw [e,hk] at h;exact Bool.noConfusion h
theorem rf [Decidable c](h:¬c)(k:¬(b h=true)):¬(dite c a b=true):=by rw [dif_neg h];exact k
theorem As {id:String}(h:Builtin.Bytes.decodersThatHold.contains id=true):qZ.contains id=true:=
 List.contains_iff_mem.mpr (List.mem_append_right _ (List.contains_iff_mem.mp h))
theorem yq (h:Q false s):ey M A (Builtin.Bytes.exported v) Q E s:=λΓ p Z hc=>by
 unfold Builtin.Bytes.exported;rw [Sem.wp_bind'];refine (?_:Sem.wp M Γ (.stack .pure) _ _ p s);rw [Sem.wp_stack,Sem.wp_pure,Sem.wp_pure'];have hk:=Ru (p:=p) hc;rw [List.any_eq_false.mpr]
 ·exact h
 ·intro x hx
  have ok:=hk x hx;obtain ⟨c,q⟩:=x;induction c<;>first|exact Bool.false_ne_true|skip
  replace ok:qZ.contains id=false:=by simpa [iu] using ok
  delta Builtin.Bytes.exported.match_1 Builtin.Bytes.exported._sparseCasesOn_1;dsimp only;refine rf (oT ok (k:="bytearray.__contains__") (by decide)) ?_;refine rf (oT ok (k:="bytearray.__mod__") (by decide)) ?_;refine rf (oT ok (k:="bytearray.__rmod__") (by decide)) ?_;refine rf (oT ok (k:="_struct.pack_into.held") (by decide)) ?_;refine rf (oT ok (k:="bytearray.find.held") (by decide)) ?_;obtain ⟨pos,kw⟩:=args;induction pos with
  |nil=>exact Bool.false_ne_true
  |cons a as=>
   refine (?_:¬((Builtin.Bytes.sameRef a v&&Builtin.Bytes.decodersThatHold.contains id)=true));simp only [Bool.eq_false_iff.mpr λq=>oT ok (As q) rfl,Bool.and_false];exact Bool.false_ne_true
section
theorem cB (hc:c=false)(h:ey M A b Q E s):ey M A (if c=true then a else b) Q E s:=by
 subst hc;exact h
theorem Au (ho:s.heap.get? a=some {cls:=.type "bytearray",data:=.bytearray b}) (hf:(f b).size<=sizeLine)
  (h:∀h',Heap.SameBut a s.heap h'->h'.get? a=some {cls:=.type "bytearray",data:=.bytearray (f b)}->Q () {s with heap:=h'}):wpAny (model prog w) A (Builtin.Bytes.write (.ref a) f) Q E s:=by
 refine (?_:wpAny _ _ (updateBytearray a f) _ _ _);refine wpAny_bind (wpAny_load ho ?_);refine wpAny_bind (wpAny_update ho ?_);have Qh:(s.heap.update a (Obj.mapBytearray f)).get? a=some {cls:=.type "bytearray",data:=.bytearray (f b)}:=Heap.get?_update_self (Obj.mapBytearray f) ho rfl;refine wpAny_lookBehind Qh ?_ (h _ (Heap.SameBut.update ..) Qh);refine (?_:(if (f b).size>sizeLine then some "bytearray:memory" else none)=none);rw [if_neg];omega
theorem Rv (hT:s.TypeIs v "bytearray")(h:Q false s):wpAny (model prog w) A (Builtin.Bytes.ownRelease v) Q E s:=by
 unfold Builtin.Bytes.ownRelease Builtin.Bytes.slotIsOwn;refine wpAny_bind (wpAny_bind (wpAny_specialOf hT CR ?_));refine wpAny_ite ?_;rw [if_neg (by decide+kernel)];rw [show ("bytearray.__release_buffer__".dropRight ("__release_buffer__".length+1))="bytearray" from by decide+kernel];exact wpAny_isInstance hT Iw (wpAny_pure h)
theorem Rw (ho:s.heap.get? a=some {cls:=.type "bytearray",data:=.bytearray #[]}) (h:Q false s):
  ey (model prog w) A (Builtin.Bytes.exported (.ref a) <||> (do return (<- Builtin.Bytes.exportsOf (.ref a))>0)) Q E s:=by
 refine dg (yq (j9 ?_));refine (?_:wpAny _ _ (Builtin.Bytes.exportsOf (Value.ref a) >>= _) _ _ _);unfold Builtin.Bytes.exportsOf;exact wpAny_bind (wpAny_bind (wpAny_load ho (wpAny_pure (wpAny_pure h))))
theorem MK (h0:0<=n)(hn:n<1000)(ho:s.heap.get? a=some {cls:=.type "bytearray",data:=.bytearray #[]})
  (h:∀h' o,Heap.SameBut a s.heap h'->h'.get? a=some o->P (.done (.ret .none)) {s with heap:=h'}):ey (model prog w) A (Builtin.«bytearray.__init__» ⟨[.ref a,.int n t],[]⟩) P E s:=by
 have hT:s.TypeIs (.ref a) "bytearray":=⟨_,ho,rfl⟩;have e1:(!Builtin.Bytes.fitsIndex n)=false:=by
  unfold Builtin.Bytes.fitsIndex;simp;omega
 have e2:¬n<0:=by omega
 have e3:(n==2 ^ 63 - 1)=false:=beq_eq_false_iff_ne.mpr (by omega);have e4:Builtin.Bytes.tooLong n.toNat=false:=decide_eq_false (by have:=sizeLine_eq;omega);have e5:(Array.replicate n.toNat (0:UInt8)).size<=sizeLine:=by rw [Array.size_replicate];have:=sizeLine_eq;omega
 unfold Builtin.«bytearray.__init__»;refine aE (Rv hT ?_);refine cB rfl ?_;refine aE (wpAny_of_eq (MJ _) ?_);refine aE (wpAny_of_eq (a:=()) rfl ?_);refine aE (wpAny_of_eq (a:=()) rfl ?_);refine dg (Rw ho ?_);refine cB rfl ?_;refine aE (Au ho (by decide) λh1 Uy ho1=>?_);refine aE (wpAny_of_eq (a:=none) rfl ?_);refine cB rfl ?_;refine cB e1 ?_;rw [if_neg e2];refine cB e3 ?_;refine cB e4 ?_;refine aE (wpAny_rule ?_);by_cases hz:n>0
 ·rw [if_pos hz]
  refine aE (Au ho1 e5 λh2 Rf ho2=>?_);exact cK (h _ _ (Uy.trans Rf) ho2)
 ·rw [if_neg hz]
  exact cK (h _ _ Uy ho1)
theorem yr:Manifest.owners.lookup (String.ofList ['y','a','r','r','a','e','t','y','b'].reverse)=some Manifest.sig_bytearray:=by kernel_rfl
theorem yt (a b:Value):argsOk "bytearray.__init__" ⟨[a,b],[]⟩:=by
 unfold argsOk;rw [signature?_of (id:="bytearray.__init__") (n:=['_','_','t','i','n','i','_','_']) (o:=['y','a','r','r','a','e','t','y','b']) (by kernel_rfl) yr];kernel_rfl
theorem ML (h0:0<=n)(hn:n<1000)
  (h:∀h' o,(∀b ob,s.heap.get? b=some ob->h'.get? b=some ob)->h'.objs.size=s.heap.objs.size+1->h'.get? s.heap.objs.size=some o->Q (.ref s.heap.objs.size) {s with heap:=h'}):ey (model prog w) A (call (.type "bytearray") [.int n t]) Q E s:=by
 have Vc:=CP;have Qf:=oS.made;have Rj:=oS.sub;refine lJ (d4 ?_);refine cK ⟨Code.quiet_builtin _ (by decide+kernel),rfl,lh F.entry_type_call ?_⟩;refine (Around.under_plain (weight_type_call_type "bytearray" _ []) (units_type_call_type "bytearray" _ []))▸?_;have h1:=oS.notType;have h2:=oS.canCreate;unfold Builtin.«type.__call__»;refine cB h1 ?_;refine cB h2 ?_;refine aE (wpAny_of_eq (Aq _) ?_);refine aE (wpAny_of_eq Vc ?_);refine cB rfl ?_;refine aE (wpAny_of_eq Qf ?_);dsimp only;refine aE (wpAny_pure ?_);refine aE (wpAny_holding (wpAny_call (codeAny_mono (Rt (E:=λZ Z=>False) (.int n t) (Q₁:=λv s'=>v=.ref s.heap.objs.size/\s'={s with heap:=s.heap.push {cls:=.type "bytearray",data:=.bytearray #[]}}) ⟨rfl,rfl⟩) λr ba hr=>?_)));rcases r with e|(_|_|_|v)<;>first|exact hr.elim|skip
 obtain ⟨rfl,rfl⟩:=hr;have ho:(s.heap.push {cls:=.type "bytearray",data:=.bytearray #[]}).get? s.heap.objs.size=some {cls:=.type "bytearray",data:=.bytearray #[]}:=Heap.get?_push_size _ rfl;have hT:({s with heap:=s.heap.push {cls:=.type "bytearray",data:=.bytearray #[]}}:Shared).TypeIs (.ref s.heap.objs.size) "bytearray":=⟨_,ho,rfl⟩;refine aE (wpAny_isInstance hT Rj ?_);refine cB rfl ?_;refine dg (ji ?_);refine aE (wpAny_specialOf hT jP.lookup ?_);refine ji (aE (wpAny_pure ?_));refine dg (lJ (qo jP.plain rfl wM (j9 (jP.check _ _ _ _ _ _ _ _ hT (yt _ _) (MK h0 hn ho λh' o hs hg=>?_)))));refine cK (cB (by decide) (cK ?_));exact h h' o (λb ob hb=>(hs.2 b (Nat.ne_of_lt (Heap.lt_size hb))).trans (Heap.get?_push_of_some _ hb)) (hs.1.trans (Heap.size_push _ _)) hg
end
end
section
section
set_option genCtorIdx false
structure Nm where
 i:Fin 168
deriving DecidableEq
namespace Nm
theorem lt (k:Nat)(h:Nat.ble (Nat.succ k) 168=true):k<168:=Nat.le_of_ble_eq_true h
theorem tt:true=true:=rfl
noncomputable abbrev N (k:Nat)(h:Nat.ble (Nat.succ k) 168=true):Nm:=⟨⟨k,lt k h⟩⟩
abbrev mv:=N (nat_lit 0) tt
abbrev CS:=N (nat_lit 1) tt
abbrev Vh:=N (nat_lit 2) tt
abbrev eE:=N (nat_lit 3) tt
abbrev aH:=N (nat_lit 4) tt
abbrev Em:=N (nat_lit 5) tt
abbrev aP:=N (nat_lit 6) tt
abbrev En:=N (nat_lit 7) tt
abbrev cV:=N (nat_lit 8) tt
abbrev Av:=N (nat_lit 9) tt
abbrev bV:=N (nat_lit 10) tt
abbrev sk:=N (nat_lit 11) tt
abbrev fY:=N (nat_lit 12) tt
abbrev jf:=N (nat_lit 13) tt
abbrev eF:=N (nat_lit 14) tt
abbrev bj:=N (nat_lit 15) tt
abbrev bw:=N (nat_lit 16) tt
abbrev au:=N (nat_lit 17) tt
abbrev yu:=N (nat_lit 18) tt
abbrev fZ:=N (nat_lit 19) tt
abbrev xk:=N (nat_lit 20) tt
abbrev dz:=N (nat_lit 21) tt
abbrev fT:=N (nat_lit 22) tt
abbrev qp:=N (nat_lit 23) tt
abbrev aK:=N (nat_lit 24) tt
abbrev nN:=N (nat_lit 25) tt
abbrev gT:=N (nat_lit 26) tt
abbrev nO:=N (nat_lit 27) tt
abbrev bI:=N (nat_lit 28) tt
abbrev iT:=N (nat_lit 29) tt
abbrev gK:=N (nat_lit 30) tt
abbrev eR:=N (nat_lit 31) tt
abbrev iU:=N (nat_lit 32) tt
abbrev eS:=N (nat_lit 33) tt
abbrev Aw:=N (nat_lit 34) tt
abbrev jj:=N (nat_lit 35) tt
abbrev eL:=N (nat_lit 36) tt
abbrev eM:=N (nat_lit 37) tt
abbrev lK:=N (nat_lit 38) tt
abbrev oU:=N (nat_lit 39) tt
abbrev jH:=N (nat_lit 40) tt
abbrev bW:=N (nat_lit 41) tt
abbrev ck:=N (nat_lit 42) tt
abbrev fu:=N (nat_lit 43) tt
abbrev aZ:=N (nat_lit 44) tt
abbrev dU:=N (nat_lit 45) tt
abbrev mw:=N (nat_lit 46) tt
abbrev dt:=N (nat_lit 47) tt
abbrev iV:=N (nat_lit 48) tt
abbrev uG:=N (nat_lit 49) tt
abbrev rh:=N (nat_lit 50) tt
abbrev ri:=N (nat_lit 51) tt
abbrev d9:=N (nat_lit 52) tt
abbrev uH:=N (nat_lit 53) tt
abbrev kc:=N (nat_lit 54) tt
abbrev Ax:=N (nat_lit 55) tt
abbrev lj:=N (nat_lit 56) tt
abbrev rj:=N (nat_lit 57) tt
abbrev iw:=N (nat_lit 58) tt
abbrev lL:=N (nat_lit 59) tt
abbrev br:=N (nat_lit 60) tt
abbrev bX:=N (nat_lit 61) tt
abbrev yv:=N (nat_lit 62) tt
abbrev aV:=N (nat_lit 63) tt
abbrev lr:=N (nat_lit 64) tt
abbrev dd:=N (nat_lit 65) tt
abbrev yw:=N (nat_lit 66) tt
abbrev jQ:=N (nat_lit 67) tt
abbrev yx:=N (nat_lit 68) tt
abbrev m8:=N (nat_lit 69) tt
abbrev fQ:=N (nat_lit 70) tt
abbrev kR:=N (nat_lit 71) tt
abbrev lM:=N (nat_lit 72) tt
abbrev ke:=N (nat_lit 73) tt
abbrev mx:=N (nat_lit 74) tt
abbrev iW:=N (nat_lit 75) tt
abbrev gL:=N (nat_lit 76) tt
abbrev eJ:=N (nat_lit 77) tt
abbrev cL:=N (nat_lit 78) tt
abbrev lN:=N (nat_lit 79) tt
abbrev fc:=N (nat_lit 80) tt
abbrev so:=N (nat_lit 81) tt
abbrev nP:=N (nat_lit 82) tt
abbrev my:=N (nat_lit 83) tt
abbrev eG:=N (nat_lit 84) tt
abbrev kS:=N (nat_lit 85) tt
abbrev rm:=N (nat_lit 86) tt
abbrev rn:=N (nat_lit 87) tt
abbrev eT:=N (nat_lit 88) tt
abbrev yy:=N (nat_lit 89) tt
abbrev uI:=N (nat_lit 90) tt
abbrev gb:=N (nat_lit 91) tt
abbrev CT:=N (nat_lit 92) tt
abbrev dW:=N (nat_lit 93) tt
abbrev mz:=N (nat_lit 94) tt
abbrev jk:=N (nat_lit 95) tt
abbrev Ay:=N (nat_lit 96) tt
abbrev yz:=N (nat_lit 97) tt
abbrev gc:=N (nat_lit 98) tt
abbrev CU:=N (nat_lit 99) tt
abbrev gU:=N (nat_lit 100) tt
abbrev bF:=N (nat_lit 101) tt
abbrev qq:=N (nat_lit 102) tt
abbrev jl:=N (nat_lit 103) tt
abbrev jR:=N (nat_lit 104) tt
abbrev cP:=N (nat_lit 105) tt
abbrev mA:=N (nat_lit 106) tt
abbrev CV:=N (nat_lit 107) tt
abbrev cY:=N (nat_lit 108) tt
abbrev nQ:=N (nat_lit 109) tt
abbrev b5:=N (nat_lit 110) tt
abbrev dh:=N (nat_lit 111) tt
abbrev dO:=N (nat_lit 112) tt
abbrev fe:=N (nat_lit 113) tt
abbrev xl:=N (nat_lit 114) tt
abbrev ab:=N (nat_lit 115) tt
abbrev oV:=N (nat_lit 116) tt
abbrev iX:=N (nat_lit 117) tt
abbrev jm:=N (nat_lit 118) tt
abbrev CW:=N (nat_lit 119) tt
abbrev mB:=N (nat_lit 120) tt
abbrev hZ:=N (nat_lit 121) tt
abbrev eh:=N (nat_lit 122) tt
abbrev Az:=N (nat_lit 123) tt
abbrev bB:=N (nat_lit 124) tt
abbrev sq:=N (nat_lit 125) tt
abbrev ft:=N (nat_lit 126) tt
abbrev mC:=N (nat_lit 127) tt
abbrev jS:=N (nat_lit 128) tt
abbrev CX:=N (nat_lit 129) tt
abbrev kT:=N (nat_lit 130) tt
abbrev aF:=N (nat_lit 131) tt
abbrev Vi:=N (nat_lit 132) tt
abbrev jn:=N (nat_lit 133) tt
abbrev aa:=N (nat_lit 134) tt
abbrev rp:=N (nat_lit 135) tt
abbrev lu:=N (nat_lit 136) tt
abbrev nR:=N (nat_lit 137) tt
abbrev et:=N (nat_lit 138) tt
abbrev rq:=N (nat_lit 139) tt
abbrev aU:=N (nat_lit 140) tt
abbrev gV:=N (nat_lit 141) tt
abbrev jT:=N (nat_lit 142) tt
abbrev dP:=N (nat_lit 143) tt
abbrev bx:=N (nat_lit 144) tt
abbrev gd:=N (nat_lit 145) tt
abbrev dH:=N (nat_lit 146) tt
abbrev eN:=N (nat_lit 147) tt
abbrev aW:=N (nat_lit 148) tt
abbrev yA:=N (nat_lit 149) tt
abbrev um:=N (nat_lit 150) tt
abbrev kg:=N (nat_lit 151) tt
abbrev d3:=N (nat_lit 152) tt
abbrev ix:=N (nat_lit 153) tt
abbrev oW:=N (nat_lit 154) tt
abbrev yB:=N (nat_lit 155) tt
abbrev ae:=N (nat_lit 156) tt
abbrev fw:=N (nat_lit 157) tt
abbrev rt:=N (nat_lit 158) tt
abbrev jo:=N (nat_lit 159) tt
abbrev iQ:=N (nat_lit 160) tt
abbrev iY:=N (nat_lit 161) tt
abbrev yC:=N (nat_lit 162) tt
abbrev lx:=N (nat_lit 163) tt
abbrev gu:=N (nat_lit 164) tt
abbrev AA:=N (nat_lit 165) tt
abbrev bc:=N (nat_lit 166) tt
abbrev Qi:=N (nat_lit 167) tt
end Nm
noncomputable def MM:List String:=["",";","A0","Back","Descriptors","FRESH","FileTable","INPUT","Job","OUTPUT","OpenFile","PIPE","Pair","Parts","Pipe","PipeTable","Process","ProcessCalls","READY","READ_CHANNEL","RUNNING","Redirect","Run","SLEEPING","Table","UNUSED","WRITE_CHANNEL","ZOMBIE","__init__","_law_line","_law_started","_law_take","_law_tree","_law_turn","all","all_files","append","arguments","before","block","box","calls","channel","channel_of","child","children","clear","close","command","copy","cwd","descriptor","devices","done","due","dup","ends","enter","exit","extend","file","files","find","first","fork","found","free","free_place","fresh","get","holders","ident","in_call","is_alive","is_shell","is_there","job","journal","kernel","killed","kind","last","law","lead","left","let_close","let_go","lines","made","major","make","many","more","most","name","need_room","new","next","next_pid","node","nodes","number","open","open_pipe","other","parent","paths","pc","pid","pids","pipe","pipes","place","places","pop","process","program","progress","put","read","read_count","read_open","readable","reader","ready","reap","registers","reparent","right","ring","run","running","say","script","self","share","side","sign","size","sleep","sleeping","slots","space","state","status","statuses","step","steps","table","take","ticks","told","tree","turn","turns","until","unused","wait","wakes","wakeup","way","writable","write","write_count","write_open","writer","zombie","|"]
noncomputable def Nm.txt (n:Nm):String:=(MM[n.i.val]?).getD ""
inductive bZ {α β:Type}(R:α->β->Prop):List α->List β->Prop
 |nil:bZ R [] []
 |cons {a b l r}:R a b->bZ R l r->bZ R (a::l) (b::r)
theorem bZ.imp (h:∀a b,R a b->R' a b) (x:bZ R l r):bZ R' l r:=by
 induction x with
 |nil=>exact .nil
 |cons h1 _ ih=>exact .cons (h _ _ h1) ih
inductive V where
 |none|bool (b:Bool)|int (i:Int)|str (n:Nm)|ref (a:Nat)
noncomputable def V.ctorIdx (v:V):Nat:=V.casesOn v 0 (λZ=>1) (λZ=>2) (λZ=>3) (λZ=>4)
noncomputable def V.cd (v:V):Nat×Int:=(v.ctorIdx,V.casesOn v 0 (λb=>bif b then 1 else 0) (λi=>i) (λn=>n.i.val) (λa=>a))
def V.dc (p:Nat×Int):V:=Nat.casesOn p.1 .none λk=>Nat.casesOn k (.bool (p.2==1)) λk=>Nat.casesOn k (.int p.2) λk=>Nat.casesOn k (.str (if h:p.2.toNat<168 then ⟨⟨_,h⟩⟩ else .mv)) λZ=>.ref p.2.toNat
theorem V.dcd (v:V):V.dc v.cd=v:=V.casesOn v rfl (λb=>by cases b<;>rfl) (λZ=>rfl) (λn=>congrArg V.str (dif_pos n.i.isLt)) (λZ=>rfl)
theorem V.ext {a b:V}(h:a.cd=b.cd):a=b:=(V.dcd a).symm.trans ((congrArg V.dc h).trans (V.dcd b))
noncomputable instance:DecidableEq V:=λZ Ym=>decidable_of_iff _ ⟨V.ext,congrArg _⟩
inductive O where
 |inst (c:Nm)(fs:List (Nm×V))|list (xs:List V)|tuple (xs:List V)|dict (es:List (Int×V))|bytes|ro (xs:List Int)
noncomputable def O.ctorIdx (o:O):Nat:=O.casesOn o (λZ Z=>0) (λZ=>1) (λZ=>2) (λZ=>3) 4 (λZ=>5)
inductive Vj (u:Unit) where|add|sub|mul|mod
abbrev Op:=Vj ()
noncomputable def Vj.ctorIdx {u:Unit}(g:Vj u):Nat:=Vj.casesOn g 0 1 2 3
inductive Vk (u:Unit) where|eq|ne|lt|le|gt|si|sr|Rx|pV
abbrev Cp:=Vk ()
noncomputable def Vk.ctorIdx {u:Unit}(g:Vk u):Nat:=Vk.casesOn g 0 1 2 3 4 5 6 7 8
mutual
inductive E where
 |none|tt|ff|int (i:Int)|str (n:Nm)|var (x:Nm)|kL (x:Nm)
 |attr (o:E)(x:Nm)|bin (op:Op)(a b:E)|cmp (op:Cp)(a b:E)|between (a b c:E)
 |kM (a b:E)|yD (a b:E)|jq (a:E)|ite (c a b:E)
 |tup (es:List E)|lst (es:List E)|m9
 |idx (a i:E)|AB (a k:E)|rev (a:E)
 |dQ (f:Nm)(es:List E)|new (c:Nm)(es:List E)|aB (o:E)(n:Nm)(es:List E)|iZ (e:E)(c:Nm)
 |len (e:E)|abs (e:E)|min (a b:E)|listOf (e:E)|sorted (e:E)|gw (e:E)|kU (e:E)
 |comp (elt:E)(x:Nm)(it:It)(c:Option E)|kh (elt:E)(x y:Nm)(it:It)(c:Option E)
inductive It where
 |over (e:E)|range (e:E)|mD (a b:E)|enum (e:E)
end
noncomputable def It.ctorIdx (o:It):Nat:=It.casesOn o (λZ=>0) (λZ=>1) (λZ Z=>2) (λZ=>3)
inductive S where
 |expr (e:E)|asg (x:Nm)(e:E)|ag (o:E)(x:Nm)(e:E)|i3 (o i e:E)
 |unpack (xs:List Nm)(e:E)|pW (x y:Nm)(a b:E)
 |aug (x:Nm)(op:Op)(e:E)|gW (o:E)(x:Nm)(op:Op)(e:E)
 |ez (c:E)(t e:List S)|ret (e:E)
 |iy (x:Nm)(it:It)(b:List S)|yE (x y:Nm)(it:It)(b:List S)
 |nS (b:List S)|nT (o i:E)|pass|brk|dead
structure Fn where
 params:List Nm
 body:List S
def uJ:Fn:=⟨[.aa,.eM],
  [(.ag (.var .aa) .eM (.listOf (.var .eM)))]⟩
def tZ:Fn:=⟨[.aa,.nR,.eG,.jS],
  [(.ag (.var .aa) .nR (.var .nR)),
  (.ag (.var .aa) .eG (.var .eG)),
  (.ag (.var .aa) .jS (.var .jS))]⟩
def t4:Fn:=⟨[.aa,.iV],
  [(.ag (.var .aa) .iV (.var .iV))]⟩
def uK:Fn:=⟨[.aa,.bW,.ab,.eN],
  [(.ag (.var .aa) .bW (.var .bW)),
  (.ag (.var .aa) .ab (.var .ab)),
  (.ag (.var .aa) .eN (.listOf (.var .eN))),
  (.ag (.var .aa) .gd (.lst [])),
  (.ag (.var .aa) .mx .ff),
  (.ag (.var .aa) .eT (.int 0))]⟩
def F0:Fn:=⟨[.aa,.eN],
  [(.expr (.aB (.attr (.var .aa) .eN) .lL [(.rev (.var .eN))]))]⟩
def CY:Fn:=⟨[.aa],
  [(.ez (.cmp .eq (.attr (.var .aa) .eN) (.lst [])) [.dead,.dead] []),
  (.asg .dH (.aB (.attr (.var .aa) .eN) .xl [])),
  (.ez (.jq (.aB (.var .aa) .uH [(.var .dH)])) [(.ez (.cmp .si (.attr (.attr (.var .aa) .ab) .gL) (.var .aa)) [(.expr (.aB (.attr (.var .aa) .eN) .eL [(.var .dH)]))] []),(.ret .ff)] []),
  (.ret .tt)]⟩
def CZ:Fn:=⟨[.aa,.dH],
  [(.asg .fc (.idx (.var .dH) (.int 0))),
  (.ez (.cmp .eq (.var .fc) (.str .kT)) [(.expr (.aB (.var .aa) .kT [(.idx (.var .dH) (.int 1))]))] [(.ez (.cmp .eq (.var .fc) (.str .ix)) [(.ez (.aB (.var .aa) .aZ [(.lst [(.tup [(.str .kT),(.idx (.var .dH) (.int 1))])])]) [(.expr (.aB (.var .aa) .jm [(.lst [(.tup [(.str .yB),(.attr (.var .aa) .eT)])])]))] [])] [(.ez (.cmp .eq (.var .fc) (.str .my)) [(.expr (.aB (.var .aa) .my [(.idx (.var .dH) (.int 1)),(.idx (.var .dH) (.int 2))]))] [(.ez (.cmp .eq (.var .fc) (.str .dt)) [(.expr (.aB (.attr (.var .aa) .bW) .dt [(.attr (.var .aa) .ab),(.idx (.var .dH) (.int 1))]))] [(.ez (.cmp .eq (.var .fc) (.str .Vi)) [.dead] [(.ez (.cmp .eq (.var .fc) (.str .fw)) [(.ret (.aB (.var .aa) .fw [.none]))] [(.ez (.cmp .eq (.var .fc) (.str .yB)) [(.ret (.aB (.var .aa) .fw [(.idx (.var .dH) (.int 1))]))] [(.expr (.aB (.attr (.var .aa) .bW) .iw [(.attr (.var .aa) .ab),(.idx (.var .dH) (.int 1))]))])])])])])])]),
  (.ret .tt)]⟩
def C3:Fn:=⟨[.aa,.cY],
  [(.nS [(.asg .kg (.aB (.attr (.var .aa) .bW) .fw [(.attr (.var .aa) .ab)]))]),
  (.ez (.cmp .si (.var .kg) .none) [(.ret .ff)] []),
  (.expr (.aB (.attr (.var .aa) .gd) .eL [(.var .kg)])),
  (.ret (.yD (.cmp .si (.var .cY) .none) (.cmp .eq (.idx (.var .kg) (.int 0)) (.var .cY))))]⟩
def C4:Fn:=⟨[.aa,.ri,.jR],
  [(.nS [(.expr (.aB (.attr (.var .aa) .bW) .dt [(.attr (.var .aa) .ab),(.var .ri)]))]),
  (.expr (.aB (.attr (.var .aa) .bW) .Ax [(.attr (.var .aa) .ab),(.var .jR)]))]⟩
def AD:Fn:=⟨[.aa,.eN],
  [(.nS [(.asg .aZ (.aB (.attr (.var .aa) .bW) .ab [(.aB (.attr (.var .aa) .bW) .lr [(.attr (.var .aa) .ab)])]))]),
  (.ag (.var .aZ) .gL (.new .cV [(.attr (.var .aa) .bW),(.var .aZ),(.rev (.var .eN))])),
  (.ag (.var .aa) .eT (.attr (.var .aZ) .cY)),
  (.ret .tt)]⟩
def F7:Fn:=⟨[.aa,.d3],
  [(.ez (.iZ (.var .d3) .fT) [(.expr (.aB (.var .aa) .oV [(.attr (.var .d3) .eM)]))] [(.ez (.iZ (.var .d3) .dz) [.dead] [(.ez (.iZ (.var .d3) .eE) [(.ez (.aB (.var .aa) .aZ [(.lst [(.tup [(.str .kT),(.attr (.var .d3) .iV)])])]) [(.expr (.aB (.var .aa) .jm [(.lst [(.tup [(.str .iw),(.int 0)])])]))] [])] [(.ez (.cmp .eq (.attr (.var .d3) .nR) (.str .CS)) [(.ez (.aB (.var .aa) .aZ [(.lst [(.tup [(.str .kT),(.attr (.var .d3) .eG)])])]) [(.expr (.aB (.var .aa) .jm [(.lst [(.tup [(.str .fw)]),(.tup [(.str .kT),(.attr (.var .d3) .jS)])])]))] [])] [(.expr (.aB (.var .aa) .b5 [(.var .d3)]))])])])])]⟩
def wN:Fn:=⟨[.aa,.eM],
  [(.ez (.cmp .eq (.var .eM) (.lst [])) [(.expr (.aB (.var .aa) .jm [(.lst [(.tup [(.str .iw),(.int 1)])])])),(.ret .none)] []),
  .dead]⟩
def C5:Fn:=⟨[.aa,.d3],
  [(.nS [(.unpack [.CW,.yC] (.aB (.attr (.var .aa) .bW) .b5 [(.attr (.var .aa) .ab)]))]),
  (.asg .lj (.lst [(.tup [(.str .dt),(.var .CW)]),(.tup [(.str .dt),(.var .yC)])])),
  (.ez (.aB (.var .aa) .aZ [(.bin .add (.bin .add (.lst [(.tup [(.str .my),(.kL .Av),(.var .yC)])]) (.var .lj)) (.lst [(.tup [(.str .kT),(.attr (.var .d3) .eG)])]))]) [(.ez (.aB (.var .aa) .aZ [(.bin .add (.bin .add (.lst [(.tup [(.str .my),(.kL .En),(.var .CW)])]) (.var .lj)) (.lst [(.tup [(.str .kT),(.attr (.var .d3) .jS)])]))]) [(.expr (.aB (.var .aa) .jm [(.bin .add (.var .lj) (.lst [(.tup [(.str .fw)]),(.tup [(.str .fw)]),(.tup [(.str .iw),(.int 0)])]))]))] [])] [])]⟩
def t5:Fn:=⟨[.aa,.kR,.et],
  [(.ez (.cmp .lt (.var .et) (.int 1)) [.dead] []),
  (.ag (.var .aa) .kR (.var .kR)),
  (.ag (.var .aa) .et (.var .et)),
  (.ag (.var .aa) .CX (.kU (.var .et))),
  (.ag (.var .aa) .mB (.int 0)),
  (.ag (.var .aa) .lx (.int 0)),
  (.ag (.var .aa) .hZ .tt),
  (.ag (.var .aa) .gu .tt)]⟩
def uL:Fn:=⟨[.aa,.lu],
  [(.ret (.tup [(.str .b5),(.attr (.var .aa) .kR),(.var .lu)]))]⟩
def yF:Fn:=⟨[.aa,.lu],
  [(.ez (.cmp .pV (.var .lu) (.tup [(.kL .fZ),(.kL .gT)])) [.dead] []),
  (.ez (.cmp .eq (.var .lu) (.kL .fZ)) [(.ag (.var .aa) .hZ .ff)] [(.ag (.var .aa) .gu .ff)]),
  (.ret (.kM (.jq (.attr (.var .aa) .hZ)) (.jq (.attr (.var .aa) .gu))))]⟩
def nU:Fn:=⟨[.aa,.et],
  [(.ag (.var .aa) .et (.var .et)),
  (.ag (.var .aa) .eT (.int 0)),
  (.ag (.var .aa) .dh .m9)]⟩
def su:Fn:=⟨[.aa],
  [(.asg .b5 (.new .eF [(.attr (.var .aa) .eT),(.attr (.var .aa) .et)])),
  (.i3 (.attr (.var .aa) .dh) (.attr (.var .aa) .eT) (.var .b5)),
  (.gW (.var .aa) .eT .add (.int 1)),
  (.ret (.var .b5))]⟩
def rx:Fn:=⟨[.aa,.b5,.lu],
  [(.ez (.kM (.aB (.var .b5) .dt [(.var .lu)]) (.cmp .si (.aB (.attr (.var .aa) .dh) .m8 [(.attr (.var .b5) .kR)]) (.var .b5))) [(.nT (.attr (.var .aa) .dh) (.attr (.var .b5) .kR))] [])]⟩
def sv:Fn:=⟨[.aa,.aW,.bX,.gU,.mA,.eJ,.d9],
  [(.ag (.var .aa) .aW (.var .aW)),
  (.ag (.var .aa) .bX (.var .bX)),
  (.ag (.var .aa) .gU (.var .gU)),
  (.ag (.var .aa) .mA (.var .mA)),
  (.ag (.var .aa) .eJ (.var .eJ)),
  (.ag (.var .aa) .d9 (.ite (.cmp .si (.var .d9) .none) .m9 (.var .d9))),
  (.ag (.var .aa) .um (.int 0))]⟩
def lO:Fn:=⟨[.aa,.cL],
  [(.ag (.var .aa) .cL (.var .cL))]⟩
def mE:Fn:=⟨[.aa,.cY],
  [(.asg .dd (.aB (.attr (.attr (.var .aa) .cL) .aW) .yv [(.var .cY)])),
  (.ez (.cmp .si (.var .dd) .none) [.dead] []),
  (.ret (.var .dd))]⟩
def pK:Fn:=⟨[.aa,.ab],
  [(.asg .aZ (.aB (.attr (.attr (.var .aa) .cL) .aW) .lr [(.var .ab),(.attr (.attr (.var .aa) .cL) .bX)])),
  (.ez (.cmp .sr (.attr (.var .aZ) .rh) .none) [.dead] []),
  (.ret (.attr (.var .aZ) .cY))]⟩
def nq:Fn:=⟨[.aa,.ab],
  [(.ez (.cmp .sr (.attr (.var .ab) .bX) .none) [(.yE .bF .br (.over (.aB (.attr (.var .ab) .bX) .jj [])) [(.expr (.aB (.var .aa) .dt [(.var .ab),(.var .bF)]))])] []),
  (.ez (.cmp .sr (.attr (.var .ab) .rh) .none) [.dead,.dead] [])]⟩
def pL:Fn:=⟨[.aa,.ab,.bx],
  [(.ez (.cmp .si (.var .ab) (.attr (.attr (.attr (.var .aa) .cL) .aW) .aV)) [.dead] []),
  (.expr (.aB (.var .aa) .rm [(.var .ab)])),
  (.ag (.var .ab) .iX (.int 0)),
  (.expr (.aB (.attr (.attr (.var .aa) .cL) .aW) .iw [(.var .ab),(.var .bx)])),
  (.ret (.int 0))]⟩
def pM:Fn:=⟨[.aa,.ab],
  [(.ret (.aB (.attr (.attr (.var .aa) .cL) .aW) .fw [(.var .ab)]))]⟩
def nV:Fn:=⟨[.aa,.ab,.bF],
  [(.asg .br (.aB (.attr (.var .ab) .bX) .yA [(.var .bF)])),
  (.expr (.aB (.var .aa) .kS [(.var .br)])),
  (.ret (.int 0))]⟩
def ly:Fn:=⟨[.aa,.br],
  [(.asg .b5 (.attr (.var .br) .b5)),
  (.expr (.aB (.attr (.attr (.var .aa) .cL) .bX) .dt [(.var .br)])),
  (.ez (.cmp .sr (.var .b5) .none) [(.expr (.aB (.attr (.attr (.var .aa) .cL) .aW) .jo [(.aB (.var .b5) .ck [(.kL .fZ)])])),(.expr (.aB (.attr (.attr (.var .aa) .cL) .aW) .jo [(.aB (.var .b5) .ck [(.kL .gT)])]))] [])]⟩
def qr:Fn:=⟨[.aa,.ab,.bF],
  [(.asg .br (.aB (.attr (.var .ab) .bX) .m8 [(.var .bF)])),
  (.asg .dd (.aB (.attr (.var .ab) .bX) .jm [(.var .br)])),
  (.expr (.aB (.attr (.attr (.var .aa) .cL) .bX) .rp [(.var .br)])),
  (.ret (.var .dd))]⟩
def pN:Fn:=⟨[.aa,.ab],
  [(.ez (.cmp .lt (.aB (.attr (.var .ab) .bX) .yw []) (.int 2)) [.dead] []),
  (.unpack [.Az,.AA] (.aB (.attr (.attr (.var .aa) .cL) .bX) .jl [])),
  (.ret (.tup [(.aB (.attr (.var .ab) .bX) .jm [(.var .Az)]),(.aB (.attr (.var .ab) .bX) .jm [(.var .AA)])]))]⟩
def pO:Fn:=⟨[.aa,.fc,.eh,.iY],
  [(.ag (.var .aa) .fc (.var .fc)),
  (.ag (.var .aa) .eh (.var .eh)),
  (.ag (.var .aa) .iY (.var .iY)),
  (.ag (.var .aa) .fQ (.int 1)),
  (.ag (.var .aa) .dO (.int 0)),
  (.ag (.var .aa) .b5 .none),
  (.ag (.var .aa) .CU .none),
  (.ag (.var .aa) .yy (.int 0))]⟩
def t6:Fn:=⟨[.aa],
  [(.ret (.ite (.attr (.var .aa) .iY) (.kL .gT) (.kL .fZ)))]⟩
def nW:Fn:=⟨[.aa,.dW,.dh,.gU,.eJ,.d9,.oU],
  [(.ez (.yD (.cmp .lt (.var .dW) (.int 1)) (.cmp .lt (.var .oU) (.int 1))) [.dead] []),
  (.ag (.var .aa) .dW (.var .dW)),
  (.ag (.var .aa) .dh (.var .dh)),
  (.ag (.var .aa) .gU (.var .gU)),
  (.ag (.var .aa) .eJ (.var .eJ)),
  (.ag (.var .aa) .d9 (.var .d9)),
  (.ag (.var .aa) .oU (.var .oU)),
  (.ag (.var .aa) .qq (.lst []))]⟩
def nr:Fn:=⟨[.aa,.gb],
  [(.ez (.cmp .gt (.bin .add (.len (.attr (.var .aa) .qq)) (.var .gb)) (.attr (.var .aa) .dW)) [.dead] [])]⟩
def ry:Fn:=⟨[.aa,.br],
  [(.expr (.aB (.var .aa) .jk [(.int 1)])),
  (.expr (.aB (.attr (.var .aa) .qq) .eL [(.var .br)])),
  (.ret (.var .br))]⟩
def nt:Fn:=⟨[.aa],
  [(.expr (.aB (.var .aa) .jk [(.int 2)])),
  (.asg .b5 (.aB (.attr (.var .aa) .dh) .uI [])),
  (.asg .lj (.lst [])),
  (.iy .eh (.over (.tup [.tt,.ff])) [(.asg .br (.new .bV [(.kL .sk),(.var .eh),(.jq (.var .eh))])),(.ag (.var .br) .b5 (.var .b5)),(.expr (.aB (.var .lj) .eL [(.aB (.var .aa) .rj [(.var .br)])]))]),
  (.ret (.tup [(.idx (.var .lj) (.int 0)),(.idx (.var .lj) (.int 1))]))]⟩
def rz:Fn:=⟨[.aa,.br],
  [(.ez (.cmp .lt (.attr (.var .br) .fQ) (.int 1)) [.dead] []),
  (.gW (.var .br) .fQ .add (.int 1)),
  (.ret (.var .br))]⟩
def rA:Fn:=⟨[.aa,.br],
  [(.ez (.cmp .lt (.attr (.var .br) .fQ) (.int 1)) [.dead] []),
  (.ez (.kM (.cmp .eq (.attr (.var .br) .fQ) (.int 1)) (.cmp .ne (.attr (.var .br) .fc) (.kL .sk))) [.dead] []),
  (.gW (.var .br) .fQ .sub (.int 1)),
  (.ez (.cmp .gt (.attr (.var .br) .fQ) (.int 0)) [(.ret .none)] []),
  (.ag (.var .aa) .qq (.comp (.var .jR) .jR (.over (.attr (.var .aa) .qq)) (some (.cmp .sr (.var .jR) (.var .br))))),
  (.ez (.cmp .eq (.attr (.var .br) .fc) (.kL .sk)) [(.expr (.aB (.attr (.var .aa) .dh) .dt [(.attr (.var .br) .b5),(.aB (.var .br) .lu [])])),(.ret .none)] []),
  .dead]⟩
def mF:Fn:=⟨[.aa,.dW],
  [(.ez (.cmp .lt (.var .dW) (.int 1)) [.dead] []),
  (.ag (.var .aa) .dW (.var .dW)),
  (.ag (.var .aa) .gV (.bin .mul (.lst [.none]) (.var .dW)))]⟩
def rB:Fn:=⟨[.aa,.br],
  [(.iy .bF (.range (.attr (.var .aa) .dW)) [(.ez (.cmp .si (.idx (.attr (.var .aa) .gV) (.var .bF)) .none) [(.i3 (.attr (.var .aa) .gV) (.var .bF) (.var .br)),(.ret (.var .bF))] [])]),
  .dead]⟩
def qs:Fn:=⟨[.aa],
  [(.ret (.len (.comp (.var .br) .br (.over (.attr (.var .aa) .gV)) (some (.cmp .si (.var .br) .none)))))]⟩
def rC:Fn:=⟨[.aa,.bF],
  [(.ez (.yD (.jq (.between (.int 0) (.var .bF) (.attr (.var .aa) .dW))) (.cmp .si (.idx (.attr (.var .aa) .gV) (.var .bF)) .none)) [.dead] []),
  (.ret (.idx (.attr (.var .aa) .gV) (.var .bF)))]⟩
def qt:Fn:=⟨[.aa,.bF],
  [(.asg .br (.aB (.var .aa) .m8 [(.var .bF)])),
  (.i3 (.attr (.var .aa) .gV) (.var .bF) .none),
  (.ret (.var .br))]⟩
def lP:Fn:=⟨[.aa],
  [(.ret (.kh (.tup [(.var .bF),(.var .br)]) .bF .br (.enum (.attr (.var .aa) .gV)) (some (.cmp .sr (.var .br) .none))))]⟩
def qu:Fn:=⟨[.aa,.aW],
  [(.asg .dd (.new .aH [(.attr (.var .aa) .dW)])),
  (.yE .bF .br (.over (.aB (.var .aa) .jj [])) [(.i3 (.attr (.var .dd) .gV) (.var .bF) (.aB (.var .aW) .rp [(.var .br)]))]),
  (.ret (.var .dd))]⟩
def qv:Fn:=⟨[.aa,.dO],
  [(.ag (.var .aa) .dO (.var .dO)),
  (.expr (.aB (.var .aa) .mw []))]⟩
def t7:Fn:=⟨[.aa],
  [(.ag (.var .aa) .cY (.int 0)),
  (.ag (.var .aa) .dP (.kL .nN)),
  (.ag (.var .aa) .cP .none),
  (.ag (.var .aa) .jT .none),
  (.ag (.var .aa) .ft (.bin .mul (.lst [(.int 0)]) (.int 32))),
  (.ag (.var .aa) .CV (.int 0)),
  (.ag (.var .aa) .bX .none),
  (.ag (.var .aa) .rh .none),
  (.ag (.var .aa) .mz (.str .mv)),
  (.ag (.var .aa) .ck .none),
  (.ag (.var .aa) .lN .ff),
  (.ag (.var .aa) .bx (.int 0)),
  (.ag (.var .aa) .lM .none),
  (.ag (.var .aa) .iX (.int 0)),
  (.ag (.var .aa) .kg .none),
  (.ag (.var .aa) .rt .none),
  (.ag (.var .aa) .gL .none),
  (.ag (.var .aa) .oW (.int 0))]⟩
def qw:Fn:=⟨[.aa],
  [(.ret (.cmp .ne (.attr (.var .aa) .dP) (.kL .nN)))]⟩
def qx:Fn:=⟨[.aa],
  [(.ret (.cmp .pV (.attr (.var .aa) .dP) (.tup [(.kL .nN),(.kL .nO)])))]⟩
def sx:Fn:=⟨[.aa,.dW],
  [(.ag (.var .aa) .fe (.comp (.new .bw [(.var .dO)]) .dO (.range (.var .dW)) none)),
  (.ag (.var .aa) .gc (.int 1)),
  (.ag (.var .aa) .so (.bin .sub (.var .dW) (.int 1))),
  (.ag (.var .aa) .aV .none),
  (.ag (.var .aa) .aF .none)]⟩
def qy:Fn:=⟨[.aa],
  [(.iy .ab (.over (.attr (.var .aa) .fe)) [(.ez (.cmp .eq (.attr (.var .ab) .dP) (.kL .nN)) [(.ret (.var .ab))] [])]),
  .dead]⟩
def AE:Fn:=⟨[.aa,.mz],
  [(.asg .ab (.aB (.var .aa) .jQ [])),
  (.expr (.aB (.var .ab) .mw [])),
  (.ag (.var .ab) .cY (.attr (.var .aa) .gc)),
  (.gW (.var .aa) .gc .add (.int 1)),
  (.ag (.var .ab) .dP (.kL .Em)),
  (.ag (.var .ab) .mz (.var .mz)),
  (.ez (.cmp .si (.attr (.var .aa) .aV) .none) [(.ag (.var .aa) .aV (.var .ab))] []),
  (.ret (.var .ab))]⟩
def yG:Fn:=⟨[.aa,.cY],
  [(.iy .ab (.over (.attr (.var .aa) .fe)) [(.ez (.kM (.aB (.var .ab) .iW []) (.cmp .eq (.attr (.var .ab) .cY) (.var .cY))) [(.ret (.var .ab))] [])]),
  .dead]⟩
def AF:Fn:=⟨[.aa],
  [(.ret (.comp (.var .ab) .ab (.over (.attr (.var .aa) .fe)) (some (.aB (.var .ab) .iW []))))]⟩
def sy:Fn:=⟨[.aa,.ab],
  [(.ret (.comp (.var .jR) .jR (.over (.attr (.var .aa) .fe)) (some (.kM (.aB (.var .jR) .iW []) (.cmp .si (.attr (.var .jR) .cP) (.var .ab))))))]⟩
def wO:Fn:=⟨[.aa,.ab],
  [(.ag (.var .ab) .dP (.kL .yu)),
  (.ag (.var .ab) .ck .none),
  (.ez (.cmp .si (.attr (.var .aa) .aF) (.var .ab)) [(.ag (.var .aa) .aF .none)] [])]⟩
def yH:Fn:=⟨[.aa],
  [(.asg .gb (.len (.attr (.var .aa) .fe))),
  (.iy .dH (.mD (.int 1) (.bin .add (.var .gb) (.int 1))) [(.asg .ab (.idx (.attr (.var .aa) .fe) (.bin .mod (.bin .add (.attr (.var .aa) .so) (.var .dH)) (.var .gb)))),(.ez (.cmp .eq (.attr (.var .ab) .dP) (.kL .yu)) [(.ag (.var .aa) .so (.attr (.var .ab) .dO)),(.ag (.var .ab) .dP (.kL .xk)),(.gW (.var .ab) .oW .add (.int 1)),(.ag (.var .aa) .aF (.var .ab)),(.ret (.var .ab))] [])]),
  (.ret .none)]⟩
def yI:Fn:=⟨[.aa,.cP,.bX],
  [(.asg .aZ (.aB (.var .aa) .Ay [(.attr (.var .cP) .mz)])),
  (.nS [(.ag (.var .aZ) .jT (.ite (.cmp .si (.attr (.var .cP) .jT) .none) .none (.aB (.attr (.var .cP) .jT) .uG [])))]),
  (.ag (.var .aZ) .ft (.listOf (.attr (.var .cP) .ft))),
  (.i3 (.attr (.var .aZ) .ft) (.kL .Vh) (.int 0)),
  (.ag (.var .aZ) .CV (.attr (.var .cP) .CV)),
  (.ag (.var .aZ) .cP (.var .cP)),
  (.ag (.var .aZ) .bX (.ite (.cmp .si (.attr (.var .cP) .bX) .none) .none (.aB (.attr (.var .cP) .bX) .uG [(.var .bX)]))),
  (.ag (.var .aZ) .rh (.attr (.var .cP) .rh)),
  (.expr (.aB (.var .aa) .bB [(.var .aZ)])),
  (.ret (.var .aZ))]⟩
def sA:Fn:=⟨[.aa,.ab],
  [(.iy .aZ (.over (.aB (.var .aa) .dU [(.var .ab)])) [(.ag (.var .aZ) .cP (.attr (.var .aa) .aV)),(.ez (.cmp .eq (.attr (.var .aZ) .dP) (.kL .nO)) [(.expr (.aB (.var .aa) .jo [(.aB (.var .aa) .fu [(.attr (.var .aa) .aV)])]))] [])])]⟩
def qz:Fn:=⟨[.aa,.ab],
  [(.ret (.tup [(.str .aZ),(.attr (.var .ab) .cY)]))]⟩
def yJ:Fn:=⟨[.aa,.ab,.bx],
  [(.ez (.cmp .si (.var .ab) (.attr (.var .aa) .aV)) [.dead] []),
  (.expr (.aB (.var .aa) .mC [(.var .ab)])),
  (.ag (.var .ab) .dP (.kL .nO)),
  (.ag (.var .ab) .ck .none),
  (.ag (.var .ab) .bx (.var .bx)),
  (.ez (.cmp .si (.attr (.var .aa) .aF) (.var .ab)) [(.ag (.var .aa) .aF .none)] []),
  (.ez (.cmp .sr (.attr (.var .ab) .cP) .none) [(.expr (.aB (.var .aa) .jo [(.aB (.var .aa) .fu [(.attr (.var .ab) .cP)])]))] [])]⟩
def yK:Fn:=⟨[.aa,.ab],
  [(.asg .kg (.tup [(.attr (.var .ab) .cY),(.attr (.var .ab) .bx)])),
  (.ez (.cmp .sr (.attr (.var .ab) .jT) .none) [.dead] []),
  (.expr (.aB (.var .ab) .mw [])),
  (.ret (.var .kg))]⟩
def yL:Fn:=⟨[.aa,.ab],
  [(.asg .dU (.aB (.var .aa) .dU [(.var .ab)])),
  (.iy .aZ (.over (.var .dU)) [(.ez (.cmp .eq (.attr (.var .aZ) .dP) (.kL .nO)) [(.ret (.aB (.var .aa) .sq [(.var .aZ)]))] [])]),
  (.ez (.yD (.cmp .eq (.var .dU) (.lst [])) (.attr (.var .ab) .lN)) [.dead] []),
  (.expr (.aB (.var .aa) .rq [(.var .ab),(.aB (.var .aa) .fu [(.var .ab)])])),
  (.ret .none)]⟩
def wQ:Fn:=⟨[.aa,.ab,.ck],
  [(.ag (.var .ab) .dP (.kL .qp)),
  (.ag (.var .ab) .ck (.var .ck)),
  (.ez (.cmp .si (.attr (.var .aa) .aF) (.var .ab)) [(.ag (.var .aa) .aF .none)] [])]⟩
def uM:Fn:=⟨[.aa,.ck],
  [(.asg .gb (.int 0)),
  (.iy .ab (.over (.attr (.var .aa) .fe)) [(.ez (.kM (.cmp .eq (.attr (.var .ab) .dP) (.kL .qp)) (.cmp .eq (.attr (.var .ab) .ck) (.var .ck))) [(.expr (.aB (.var .aa) .bB [(.var .ab)])),(.aug .gb .add (.int 1))] [])]),
  (.ret (.var .gb))]⟩
def C6:Fn:=⟨[.jH,.gb],
  [(.asg .dO (.idx (.var .jH) (.int 1))),
  (.i3 (.var .jH) (.int 1) (.bin .add (.var .dO) (.int 1))),
  (.asg .bF (.ite (.cmp .lt (.var .dO) (.len (.idx (.var .jH) (.int 0)))) (.abs (.idx (.idx (.var .jH) (.int 0)) (.var .dO))) (.bin .add (.bin .mul (.int 3) (.var .dO)) (.int 1)))),
  (.ret (.bin .mod (.var .bF) (.var .gb)))]⟩
def C7:Fn:=⟨[.aW,.aV],
  [(.asg .ab (.aB (.var .aW) .yz [])),
  (.ez (.cmp .si (.var .ab) .none) [(.ret .ff)] []),
  (.ez (.kM (.cmp .si (.var .ab) (.var .aV)) (.cmp .eq (.attr (.attr (.var .ab) .gL) .eN) (.lst []))) [(.expr (.aB (.var .aW) .rq [(.var .ab),(.tup [(.str .rn)])]))] [(.expr (.aB (.attr (.var .ab) .gL) .dH []))]),
  (.ez (.cmp .eq (.attr (.var .ab) .dP) (.str .aF)) [(.expr (.aB (.var .aW) .bB [(.var .ab)]))] []),
  (.ret .tt)]⟩
def C8:Fn:=⟨[.iQ],
  [(.ez (.cmp .eq (.var .iQ) (.int 0)) [(.ret (.tup [(.new .fT [(.lst [])]),(.int 1),(.lst [])]))] []),
  (.ez (.cmp .eq (.var .iQ) (.int 1)) [(.ret (.tup [(.new .eE [(.new .fT [(.lst [])])]),(.int 0),(.lst [(.int 1)])]))] []),
  (.ret (.tup [(.new .fY [(.str .CS),(.new .eE [(.new .fT [(.lst [])])]),(.new .eE [(.new .fY [(.str .Qi),(.new .fT [(.lst [])]),(.new .fT [(.lst [])])])])]),(.int 0),(.lst [(.int 1),(.int 0)])]))]⟩
def C9:Fn:=⟨[.aW,.aV,.iQ,.dW],
  [(.unpack [.d3,.bx,.eG] (.dQ .iU [(.var .iQ)])),
  (.expr (.aB (.attr (.var .aV) .gL) .jm [(.lst [(.tup [(.str .ix),(.var .d3)])])])),
  (.ez (.cmp .eq (.attr (.var .aV) .dP) (.str .aU)) [(.expr (.aB (.var .aW) .bB [(.var .aV)]))] []),
  (.asg .lK (.attr (.var .aW) .gc)),
  (.iy .ix (.range (.var .dW)) [(.ez (.cmp .eq (.attr (.attr (.var .aV) .gL) .eN) (.lst [])) [(.ret (.var .lK))] []),(.ez (.jq (.dQ .eS [(.var .aW),(.var .aV)])) [.dead] [])]),
  .dead]⟩
def wR:Fn:=⟨[],
  [(.asg .aW (.new .aK [(.int 24)])),
  (.asg .bW (.new .au [(.new .jf [(.var .aW),(.new .aP [(.int 30),(.new .bj [(.int 4)]),.none,.none,.m9,(.int 16)])])])),
  (.asg .aV (.aB (.var .aW) .Ay [(.str .aV)])),
  (.ag (.var .aV) .bX (.new .aH [(.int 6)])),
  (.expr (.aB (.var .bW) .b5 [(.var .aV)])),
  (.expr (.aB (.var .bW) .Ax [(.var .aV),(.int 1)])),
  (.ag (.var .aV) .gL (.new .cV [(.var .bW),(.var .aV),(.lst [])])),
  (.ag (.attr (.var .aV) .gL) .mx .tt),
  (.expr (.aB (.var .aW) .bB [(.var .aV)])),
  (.ret (.tup [(.var .aW),(.var .bW),(.var .aV)]))]⟩
def Iz:Fn:=⟨[.jn],
  [(.pW .jH .kc (.lst [(.AB (.var .jn) (.int 20)),(.int 0)]) (.lst [])),
  (.unpack [.aW,.bW,.aV] (.dQ .gK [])),
  (.iy .ix (.range (.bin .add (.int 1) (.min (.int 3) (.len (.var .jn))))) [(.asg .iQ (.dQ .eR [(.var .jH),(.int 3)])),(.asg .cY (.dQ .iT [(.var .aW),(.var .aV),(.var .iQ),(.int 150)])),(.unpack [.d3,.bx,.eG] (.dQ .iU [(.var .iQ)])),(.ez (.yD (.cmp .si (.var .cY) .none) (.cmp .pV (.tup [(.var .cY),(.var .bx)]) (.attr (.attr (.var .aV) .gL) .gd))) [.dead] []),(.asg .kc (.bin .add (.bin .add (.var .kc) (.lst [(.var .bx)])) (.var .eG))),(.iy .CT (.range (.bin .mul (.dQ .eR [(.var .jH),(.int 5)]) (.int 2))) [(.expr (.dQ .eS [(.var .aW),(.var .aV)]))]),(.ez (.kM (.cmp .gt (.len (.var .jn)) (.int 0)) (.cmp .eq (.dQ .eR [(.var .jH),(.int 3)]) (.int 0))) [(.asg .aZ (.aB (.var .bW) .ab [(.aB (.var .bW) .lr [(.var .aV)])])),(.expr (.aB (.var .bW) .iw [(.var .aZ),(.int 7)])),(.expr (.aB (.var .kc) .eL [(.int 7)]))] [])]),
  (.iy .ix (.range (.int 200)) [(.ez (.jq (.dQ .eS [(.var .aW),(.var .aV)])) [.brk] [])]),
  (.asg .dd (.listOf (.attr (.attr (.var .aV) .gL) .gd))),
  (.iy .aZ (.over (.aB (.var .aW) .dU [(.var .aV)])) [(.ez (.aB (.var .aZ) .ke []) [.dead] []),(.expr (.aB (.var .dd) .eL [(.aB (.var .aW) .sq [(.var .aZ)])]))]),
  (.asg .nQ (.kh (.var .cY) .cY .bx (.over (.var .dd)) none)),
  (.ez (.yD (.cmp .ne (.sorted (.kh (.var .bx) .cY .bx (.over (.var .dd)) none)) (.sorted (.var .kc))) (.cmp .ne (.gw (.var .nQ)) (.sorted (.var .nQ)))) [.dead] []),
  (.ret (.cmp .eq (.aB (.var .aW) .Aw []) (.lst [(.var .aV)])))]⟩
def Eo:List (Nm×Nm×Fn):=[
 (.fT,.bI,uJ),
 (.fY,.bI,tZ),
 (.eE,.bI,t4),
 (.cV,.bI,uK),
 (.cV,.jm,F0),
 (.cV,.dH,CY),
 (.cV,.uH,CZ),
 (.cV,.fw,C3),
 (.cV,.my,C4),
 (.cV,.aZ,AD),
 (.cV,.kT,F7),
 (.cV,.oV,wN),
 (.cV,.b5,C5),
 (.eF,.bI,t5),
 (.eF,.ck,uL),
 (.eF,.dt,yF),
 (.bj,.bI,nU),
 (.bj,.uI,su),
 (.bj,.dt,rx),
 (.jf,.bI,sv),
 (.au,.bI,lO),
 (.au,.ab,mE),
 (.au,.lr,pK),
 (.au,.rm,nq),
 (.au,.iw,pL),
 (.au,.fw,pM),
 (.au,.dt,nV),
 (.au,.kS,ly),
 (.au,.Ax,qr),
 (.au,.b5,pN),
 (.bV,.bI,pO),
 (.bV,.lu,t6),
 (.aP,.bI,nW),
 (.aP,.jk,nr),
 (.aP,.rj,ry),
 (.aP,.jl,nt),
 (.aP,.rp,rz),
 (.aP,.dt,rA),
 (.aH,.bI,mF),
 (.aH,.jm,rB),
 (.aH,.yw,qs),
 (.aH,.m8,rC),
 (.aH,.yA,qt),
 (.aH,.jj,lP),
 (.aH,.uG,qu),
 (.bw,.bI,qv),
 (.bw,.mw,t7),
 (.bw,.iW,qw),
 (.bw,.ke,qx),
 (.aK,.bI,sx),
 (.aK,.jQ,qy),
 (.aK,.Ay,AE),
 (.aK,.yv,yG),
 (.aK,.Aw,AF),
 (.aK,.dU,sy),
 (.aK,.bB,wO),
 (.aK,.yz,yH),
 (.aK,.lr,yI),
 (.aK,.mC,sA),
 (.aK,.fu,qz),
 (.aK,.iw,yJ),
 (.aK,.sq,yK),
 (.aK,.fw,yL),
 (.aK,.rq,wQ),
 (.aK,.jo,uM)]
def meths (c n:Nm):Option Fn:=(Eo.find? λe=>e.1==c&&e.2.1==n).map (·.2.2)
def MN:List (Nm×Fn):=[(.eR,C6),(.eS,C7),(.iU,C8),(.iT,C9),(.gK,wR),(.nP,Iz)]
def nX (f:Nm):Option Fn:=(MN.find? λe=>e.1==f).map (·.2)
def uN:List (Nm×List Nm):=[
 (.fT,[.eM]),
 (.fY,[.nR,.eG,.jS]),
 (.eE,[.iV]),
 (.cV,[.bW,.ab,.eN,.gd,.mx,.eT]),
 (.eF,[.kR,.et,.CX,.mB,.lx,.hZ,.gu]),
 (.bj,[.et,.eT,.dh]),
 (.jf,[.aW,.bX,.gU,.mA,.eJ,.d9,.um]),
 (.au,[.cL]),
 (.bV,[.fc,.eh,.iY,.fQ,.dO,.b5,.CU,.yy]),
 (.aP,[.dW,.dh,.gU,.eJ,.d9,.oU,.qq]),
 (.aH,[.dW,.gV]),
 (.bw,[.dO,.cY,.dP,.cP,.jT,.ft,.CV,.bX,.rh,.mz,.ck,.lN,.bx,.lM,.iX,.kg,.rt,.gL,.oW]),
 (.aK,[.fe,.gc,.so,.aV,.aF])]
def attrs (c:Nm):List Nm:=((uN.find? λe=>e.1==c).map (·.2)).getD []
def globT:List (Nm×V):=[(.Vh,(.int 10)),(.Em,(.str .yx)),(.En,(.int 0)),(.Av,(.int 1)),(.sk,(.str .b5)),(.yu,(.str .bB)),(.fZ,(.int 0)),(.xk,(.str .aF)),(.qp,(.str .aU)),(.nN,(.str .ae)),(.gT,(.int 1)),(.nO,(.str .bc))]
def uO (x:Nm):Option V:=(globT.find? λe=>e.1==x).map (·.2)
abbrev Hp:=Nat->Option O
noncomputable def Hp.upd (H:Hp)(a:Nat)(o:O):Hp:=λb=>if b=a then some o else H b
abbrev Loc:=List (Nm×V)
noncomputable def look (x:Nm):List (Nm×V)->Option V
 |[]=>none
 |(y,v)::r=>if y=x then some v else look x r
noncomputable def put (x:Nm)(v:V):List (Nm×V)->List (Nm×V)
 |[]=>[(x,v)]
 |(y,w)::r=>if y=x then (x,v)::r else (y,w)::put x v r
inductive Fl where|next|brk|ret (v:V)
abbrev VP:=V->Hp->Prop
abbrev FP:=Fl->Loc->Hp->Prop
abbrev BP:=Bool->Hp->Prop
abbrev LP:=List V->Hp->Prop
abbrev NV:=List (Nm×V)
abbrev ON:=List (Option Nat)
def small (i:Int):Prop:=-(2 ^ 62)<i/\i<2 ^ 62
structure Calls where
 fn:Nm->List V->Hp->VP->Prop
 aB:Nm->Nm->List V->Hp->VP->Prop
def attrOk (c x:Nm):Bool:=(attrs c).contains x
def d5 (c:Nm):Bool:=!(attrs c).isEmpty
inductive F8 (H:Hp):V->V->Bool->Prop
 |nn:F8 H .none .none true
 |xn (v) (h:Nat.beq v.ctorIdx 0=false):F8 H v .none false
 |nx (w) (h:Nat.beq w.ctorIdx 0=false):F8 H .none w false
 |ref (a b c c' f f') (h1:H a=some (.inst c f)) (h2:H b=some (.inst c' f')):F8 H (.ref a) (.ref b) (a==b)
noncomputable def gM:V->Bool
 |.int _=>true
 |.str _=>true
 |_=>false
inductive DM where|v (x:V)|t (xs:List V)
noncomputable def DM.cd (d:DM):Bool×List V:=DM.casesOn d (λx=>(true,[x])) (λxs=>(false,xs))
theorem DM.ext {a b:DM}(h:a.cd=b.cd):a=b:=by
 have h1:=congrArg Prod.fst h;have h2:=congrArg Prod.snd h
 revert h1 h2
 exact DM.casesOn a (λx=>DM.casesOn b (λy Z h2=>congrArg DM.v (List.cons.inj h2).1) λys h1=>Bool.noConfusion h1) λxs=>DM.casesOn b (λy h1=>Bool.noConfusion h1) λys Z h2=>congrArg DM.t h2
noncomputable instance:DecidableEq DM:=λZ Ym=>decidable_of_iff _ ⟨DM.ext,congrArg _⟩
inductive Dm (H:Hp):V->DM->Prop
 |int (i):Dm H (.int i) (.v (.int i))
 |str (n):Dm H (.str n) (.v (.str n))
 |tup (a xs) (h:H a=some (.tuple xs)) (f:xs.all gM=true):Dm H (.ref a) (.t xs)
inductive Qj (H:Hp):V->V->Bool->Prop
 |dm (v w d e) (h1:Dm H v d) (h2:Dm H w e):Qj H v w (decide (d=e))
 |il (a b) (is js:List Int) (h1:H a=some (.list (is.map .int))) (h2:H b=some (.list (js.map .int))):Qj H (.ref a) (.ref b) (decide (is=js))
inductive HP (H:Hp):V->V->Bool->Prop
 |d (v w b) (h:Qj H v w b):HP H v w b
 |one (a b c) (h1:H a=some (.list [.ref c])) (h2:H b=some (.list [.ref c])):HP H (.ref a) (.ref b) true
 |len (a b xs ys) (h1:H a=some (.list xs)) (h2:H b=some (.list ys)) (hl:xs.length≠ys.length):HP H (.ref a) (.ref b) false
noncomputable def cD (i:Int):List Int->List Int
 |[]=>[i]
 |j::r=>if i<=j then i::j::r else j::cD i r
noncomputable def b8:List Int->List Int
 |[]=>[]
 |i::r=>cD i (b8 r)
def alloc (H:Hp)(o:O)(Q:VP):Prop:=∀a,H a=none->Q (.ref a) (H.upd a o)
inductive Qk (H:Hp)(x:Nm)(Q:V->Prop):V->Prop
 |mk (a c fs w) (hp:H a=some (.inst c fs)) (hl:look x fs=some w) (h:Q w):Qk H x Q (.ref a)
abbrev rD (H:Hp)(v:V)(x:Nm)(Q:V->Prop):Prop:=Qk H x Q v
inductive AG (H:Hp)(x:Nm)(w:V)(Q:Hp->Prop):V->Prop
 |mk (a c fs) (hp:H a=some (.inst c fs)) (ha:attrOk c x=true) (hl:fs.length<900) (h:Q (H.upd a (.inst c (put x w fs)))):AG H x w Q (.ref a)
abbrev fJ (H:Hp)(v:V)(x:Nm)(w:V)(Q:Hp->Prop):Prop:=AG H x w Q v
inductive Ry (H:Hp)(Q:V->Prop):V->V->Prop
 |list (a i xs w) (hp:H a=some (.list xs)) (h0:0<=i) (h1:i<10000) (hx:xs[i.toNat]?=some w) (h:Q w):Ry H Q (.ref a) (.int i)
 |tuple (a i xs w) (hp:H a=some (.tuple xs)) (h0:0<=i) (h1:i<10000) (hx:xs[i.toNat]?=some w) (h:Q w):Ry H Q (.ref a) (.int i)
abbrev Dc (H:Hp)(v i:V)(Q:V->Prop):Prop:=Ry H Q v i
noncomputable def dictPut (i:Int)(w:V)(es:List (Int×V)):List (Int×V):=if es.any (λe=>e.1=i) then es.map (λe=>if e.1=i then (e.1,w) else e) else es++[(i,w)]
noncomputable def dictGet (i:Int)(es:List (Int×V)):Option V:=(es.find? λe=>e.1=i).map (·.2)
noncomputable def dictDel (i:Int)(es:List (Int×V)):List (Int×V):=es.filter λe=>decide (e.1≠i)
inductive yM (H:Hp)(w:V)(Q:Hp->Prop):V->V->Prop
 |list (a i xs) (hp:H a=some (.list xs)) (h0:0<=i) (h1:i<10000) (h2:i.toNat<xs.length) (h:Q (H.upd a (.list (xs.set i.toNat w)))):yM H w Q (.ref a) (.int i)
 |dict (a i es) (hp:H a=some (.dict es)) (hz:es.length<1000) (h:Q (H.upd a (.dict (dictPut i w es)))):yM H w Q (.ref a) (.int i)
abbrev oX (H:Hp)(v i w:V)(Q:Hp->Prop):Prop:=yM H w Q v i
inductive yN (H:Hp)(Q:VP):Op->V->V->Prop
 |add (i j) (h:Q (.int (i+j)) H):yN H Q .add (.int i) (.int j)
 |sub (i j) (h:Q (.int (i - j)) H):yN H Q .sub (.int i) (.int j)
 |mul (i j) (h1:-(2 ^ 30)<i) (h2:i<2 ^ 30) (h3:-(2 ^ 30)<j) (h4:j<2 ^ 30) (h:Q (.int (i*j)) H):yN H Q .mul (.int i) (.int j)
 |mod (i j) (h0:0<j) (h:Q (.int (i % j)) H):yN H Q .mod (.int i) (.int j)
 |cat (a b xs ys) (hx:H a=some (.list xs)) (hy:H b=some (.list ys)) (hz:xs.length+ys.length<1000) (h:alloc H (.list (xs++ys)) Q):yN H Q .add (.ref a) (.ref b)
 |rep (a n x) (hx:H a=some (.list [x])) (h0:0<=n) (h1:n<1000) (h:alloc H (.list (List.replicate n.toNat x)) Q):yN H Q .mul (.ref a) (.int n)
abbrev wU (H:Hp)(op:Op)(v w:V)(Q:VP):Prop:=yN H Q op v w
inductive Rz (Q:V->Prop):Op->V->V->Prop
 |add (i j) (h:Q (.int (i+j))):Rz Q .add (.int i) (.int j)
 |sub (i j) (h:Q (.int (i - j))):Rz Q .sub (.int i) (.int j)
abbrev uP (op:Op)(v w:V)(Q:V->Prop):Prop:=Rz Q op v w
inductive wV (H:Hp)(Q:Bool->Prop):Cp->V->V->Prop
 |eq (v w b) (e:HP H v w b) (h:Q b):wV H Q .eq v w
 |ne (v w b) (e:Qj H v w b) (h:Q (!b)):wV H Q .ne v w
 |si (v w b) (e:F8 H v w b) (h:Q b):wV H Q .si v w
 |sr (v w b) (e:F8 H v w b) (h:Q (!b)):wV H Q .sr v w
 |lt (i j) (h:Q (decide (i<j))):wV H Q .lt (.int i) (.int j)
 |le (i j) (h:Q (decide (i<=j))):wV H Q .le (.int i) (.int j)
 |gt (i j) (h:Q (decide (i>j))):wV H Q .gt (.int i) (.int j)
 |Rx (v a xs d ds) (hx:H a=some (.list xs)\/H a=some (.tuple xs)) (h1:Dm H v d) (h2:bZ (Dm H) xs ds) (h:Q (decide (d∈ds))):wV H Q .Rx v (.ref a)
 |pV (v a xs d ds) (hx:H a=some (.list xs)\/H a=some (.tuple xs)) (h1:Dm H v d) (h2:bZ (Dm H) xs ds) (h:Q (!decide (d∈ds))):wV H Q .pV v (.ref a)
abbrev iz (H:Hp)(op:Cp)(v w:V)(Q:Bool->Prop):Prop:=wV H Q op v w
inductive RA (H:Hp)(Q:Int->Prop):V->Prop
 |list (a xs) (hp:H a=some (.list xs)) (hl:xs.length<1000) (h:Q xs.length):RA H Q (.ref a)
 |ro (a xs) (hp:H a=some (.ro xs)) (hl:xs.length<1000) (h:Q xs.length):RA H Q (.ref a)
abbrev F9 (H:Hp)(v:V)(Q:Int->Prop):Prop:=RA H Q v
inductive Ql (H:Hp)(Q:List V->Prop):V->Prop
 |mk (a xs) (hp:H a=some (.list xs)) (h:Q xs):Ql H Q (.ref a)
abbrev jI (H:Hp)(v:V)(Q:List V->Prop):Prop:=Ql H Q v
inductive Ep (H:Hp)(Q:V->V->Prop):V->Prop
 |mk (a x y) (hp:H a=some (.tuple [x,y])) (h:Q x y):Ep H Q (.ref a)
abbrev Qm (H:Hp)(v:V)(Q:V->V->Prop):Prop:=Ep H Q v
def nY.ZF (m:Loc)(x:Nm)(Q:V->Prop)(Z:Prop):Prop:=∀v (hl:look x m=some v)(h:Q v),Z
def nY (m x Q):=∀Z:Prop,nY.ZF m x Q Z->Z
theorem nY.mk:nY.ZF m x Q (nY m x Q):=λv hl h _ Z=>Z v hl h
def tH.ZF (x:Nm)(Q:V->Prop)(Z:Prop):Prop:=∀v (hl:uO x=some v)(h:Q v),Z
def tH (x Q):=∀Z:Prop,tH.ZF x Q Z->Z
theorem tH.mk:tH.ZF x Q (tH x Q):=λv hl h _ Z=>Z v hl h
inductive Er (Q:BP)(H:Hp):V->Prop
 |mk (b) (h:Q b H):Er Q H (.bool b)
abbrev jJ (Q:BP)(v:V)(H:Hp):Prop:=Er Q H v
inductive AH (H:Hp)(Q:VP):V->V->Prop
 |mk (a k xs) (hp:H a=some (.ro xs)) (hl:xs.length<1000) (h0:0<=k) (h1:k<1000) (h:alloc H (.list ((xs.take k.toNat).map .int)) Q):AH H Q (.ref a) (.int k)
inductive Vl (H:Hp)(c:Nm)(Q:VP):V->Prop
 |mk (a c' fs) (hp:H a=some (.inst c' fs)) (hc:(c'==.fT||c'==.eE||c'==.fY)=true) (h:Q (.bool (c'==c)) H):Vl H c Q (.ref a)
abbrev IA (c:Nm)(Q:VP)(v:V)(H:Hp):Prop:=Vl H c Q v
inductive IB (H:Hp)(Q:VP):V->Prop
 |mk (i) (h:Q (.int i.natAbs) H):IB H Q (.int i)
inductive sC (H:Hp)(Q:VP):V->Prop
 |mk (n) (h0:0<=n) (h1:n<1000) (h:alloc H .bytes Q):sC H Q (.int n)
inductive Ga (H:Hp)(Q:VP):V->V->Prop
 |mk (i j) (h:Q (.int (if j<i then j else i)) H):Ga H Q (.int i) (.int j)
def xm.ZF (H:Hp)(Q:VP)(xs:List V)(Z:Prop):Prop:=∀(is:List Int)(hl:xs.length<64)(hi:xs=is.map .int)(h:alloc H (.list ((b8 is).map .int)) Q),Z
def xm (H Q xs):=∀Z:Prop,xm.ZF H Q xs Z->Z
theorem xm.mk:xm.ZF H Q xs (xm H Q xs):=λis hl hi h _ Z=>Z is hl hi h
abbrev Es (Q:VP)(xs:List V)(H:Hp):Prop:=xm H Q xs
def xo.ZF (H:Hp)(Q:VP)(xs:List V)(Z:Prop):Prop:=∀(is:List Int)(hl:xs.length<64)(hi:xs=is.map .int)(nd:is.Nodup)(h:alloc H (.list ((b8 is).map .int)) Q),Z
def xo (H Q xs):=∀Z:Prop,xo.ZF H Q xs Z->Z
theorem xo.mk:xo.ZF H Q xs (xo H Q xs):=λis hl hi nd h _ Z=>Z is hl hi nd h
abbrev AI (Q:VP)(xs:List V)(H:Hp):Prop:=xo H Q xs
structure Ev where
 E:Internal.E->Loc->Hp->VP->Prop
 T:Internal.E->Loc->Hp->BP->Prop
 S:Internal.S->Loc->Hp->FP->Prop
def nH (r:Ev):List E->Loc->Hp->LP->Prop
 |[],_,H,Q=>Q [] H
 |e::es,m,H,Q=>r.E e m H λv H=>nH r es m H λvs H=>Q (v::vs) H
def eK (r:Ev):List S->Loc->Hp->FP->Prop
 |[],m,H,Q=>Q .next m H
 |s::ss,m,H,Q=>r.S s m H λf m H=>match f with
  |.next=>eK r ss m H Q
  |f=>Q f m H
inductive Src where
 |seq (a:Nat)(o:O)(xs:List V)|nums (xs:List Int)
noncomputable def Src.items:Src->List V
 |.seq _ _ xs=>xs
 |.nums xs=>xs.map .int
def Src.ok (s:Src)(H:Hp):Prop:=match s with
 |.seq a o _=>H a=some o
 |.nums _=>True
noncomputable def upTo (lo n:Int):List Int:=(List.range (n - lo).toNat).map λ(k:Nat)=>lo+(k:Int)
inductive IC (H:Hp)(Q:Src->Hp->Prop):V->Prop
 |list (a xs) (hp:H a=some (.list xs)) (h:Q (.seq a (.list xs) xs) H):IC H Q (.ref a)
 |tuple (a xs) (hp:H a=some (.tuple xs)) (h:Q (.seq a (.tuple xs) xs) H):IC H Q (.ref a)
abbrev xp (Q:Src->Hp->Prop)(v:V)(H:Hp):Prop:=IC H Q v
inductive Qn (H:Hp)(Q:Src->Hp->Prop):V->Prop
 |mk (a xs) (hp:H a=some (.list xs)) (h:Q (.seq a (.list xs) xs) H):Qn H Q (.ref a)
abbrev Et (Q:Src->Hp->Prop)(v:V)(H:Hp):Prop:=Qn H Q v
inductive ID (H:Hp)(Q:Src->Hp->Prop):V->Prop
 |mk (n) (h1:n<1000) (h2:small n) (h:Q (.nums (upTo 0 n)) H):ID H Q (.int n)
abbrev uQ (Q:Src->Hp->Prop)(v:V)(H:Hp):Prop:=ID H Q v
inductive uo (H:Hp)(Q:Src->Hp->Prop):V->V->Prop
 |mk (lo n) (h0:0<=lo) (h1:n<1000) (h2:small n) (h3:small lo) (h:Q (.nums (upTo lo n)) H):uo H Q (.int lo) (.int n)
def wW (r:Ev)(it:It)(m:Loc)(H:Hp)(Q:Src->Hp->Prop):Prop:=match it with
 |.over e=>r.E e m H (xp Q)
 |.range e=>r.E e m H (uQ Q)
 |.mD a b=>r.E a m H λv H=>r.E b m H λw H=>uo H Q v w
 |.enum e=>r.E e m H (Et Q)
def yO (r:Ev)(c:Option E)(m:Loc)(H:Hp)(Q:BP):Prop:=match c with
 |none=>Q true H
 |some c=>r.T c m H Q
def iA (r:Ev)(elt:E)(bind:Nat->V->Hp->(Loc->Prop)->Prop)(s:Src)(c:Option E):Nat->List V->List V->Hp->LP->Prop
 |_,[],acc,H,Q=>s.ok H/\Q acc H
 |k,v::vs,acc,H,Q=>s.ok H/\bind k v H λm=>yO r c m H λb H=>
   if b then r.E elt m H λw H=>iA r elt bind s c (k+1) vs (acc++[w]) H Q else iA r elt bind s c (k+1) vs acc H Q
def nZ (r:Ev)(bind:V->Loc->Hp->(Loc->Prop)->Prop)(s:Src)(b:List S):List V->Loc->Hp->FP->Prop
 |[],m,H,Q=>s.ok H/\Q .next m H
 |v::vs,m,H,Q=>s.ok H/\bind v m H λm=>eK r b m H λf m H=>match f with
  |.next=>nZ r bind s b vs m H Q
  |.brk=>Q .next m H
  |.ret w=>Q (.ret w) m H
def bind1 (x:Nm)(v:V)(m:Loc)(Z:Hp)(Q:Loc->Prop):Prop:=Q (put x v m)
def uR (x y:Nm)(v:V)(m:Loc)(H:Hp)(Q:Loc->Prop):Prop:=Qm H v λa b=>Q (put y b (put x a m))
noncomputable def putAll:List Nm->List V->Loc->Loc
 |x::xs,v::vs,m=>putAll xs vs (put x v m)
 |_,_,m=>m
inductive Kd where|inst (c:Nm)|append|extend|pop|get
inductive ki (H:Hp)(Q:Nm->V->Kd->Prop):Nm->V->Prop
 |inst (n a c fs) (hp:H a=some (.inst c fs)) (hc:d5 c=true) (hl:look n fs=none) (h:Q n (.ref a) (.inst c)):ki H Q n (.ref a)
 |append (a xs) (hp:H a=some (.list xs)) (h:Q .eL (.ref a) .append):ki H Q .eL (.ref a)
 |extend (a xs) (hp:H a=some (.list xs)) (h:Q .lL (.ref a) .extend):ki H Q .lL (.ref a)
 |pop (a xs) (hp:H a=some (.list xs)) (h:Q .xl (.ref a) .pop):ki H Q .xl (.ref a)
 |get (a es) (hp:H a=some (.dict es)) (h:Q .m8 (.ref a) .get):ki H Q .m8 (.ref a)
inductive MO (H:Hp)(Q:VP):V->List V->Prop
 |mk (a xs w) (hx:H a=some (.list xs)) (hz:xs.length<1000) (h:Q .none (H.upd a (.list (xs++[w])))):MO H Q (.ref a) [w]
inductive MP (H:Hp)(Q:VP):V->List V->Prop
 |mk (a xs b ys) (hx:H a=some (.list xs)) (hy:H b=some (.list ys)) (MQ:ys.length<1000) (hz:xs.length<1000) (dw:ys≠[]) (h:Q .none (H.upd a (.list (xs++ys)))):MP H Q (.ref a) [.ref b]
inductive MR (H:Hp)(Q:VP):V->List V->Prop
 |mk (a xs w) (hx:H a=some (.list xs)) (hz:xs.length<1000) (hw:xs.getLast?=some w) (h:Q w (H.upd a (.list xs.dropLast))):MR H Q (.ref a) []
inductive MT (H:Hp)(Q:VP):V->List V->Prop
 |mk (a es i) (hx:H a=some (.dict es)) (h:Q ((dictGet i es).getD .none) H):MT H Q (.ref a) [.int i]
def pX (C:Calls)(H:Hp)(kd:Kd)(v:V)(n:Nm)(vs:List V)(Q:VP):Prop:=match kd with
 |.inst c=>C.aB c n (v::vs) H Q
 |.append=>MO H Q v vs
 |.extend=>MP H Q v vs
 |.pop=>MR H Q v vs
 |.get=>MT H Q v vs
def sD (kd:Kd)(n:Nm):Bool:=match kd with
 |.inst c=>(meths c n).isSome
 |_=>true
inductive Vm (xs:List Nm)(m:Loc)(Q:Loc->Hp->Prop)(H:Hp):V->Prop
 |mk (a vs) (hp:H a=some (.tuple vs)) (hl:vs.length=xs.length) (h:Q (putAll xs vs m) H):Vm xs m Q H (.ref a)
abbrev IE (xs:List Nm)(m:Loc)(Q:Loc->Hp->Prop)(v:V)(H:Hp):Prop:=Vm xs m Q H v
inductive IF (H:Hp)(Q:Hp->Prop):V->V->Prop
 |mk (a i es) (hp:H a=some (.dict es)) (hz:es.length<1000) (hi:(dictGet i es).isSome=true) (h:Q (H.upd a (.dict (dictDel i es)))):IF H Q (.ref a) (.int i)
def tI (C:Calls)(r:Ev)(e:E)(m:Loc)(H:Hp)(Q:VP):Prop:=match e with
 |.none=>Q .none H
 |.tt=>Q (.bool true) H
 |.ff=>Q (.bool false) H
 |.int i=>Q (.int i) H
 |.str n=>Q (.str n) H
 |.var x=>nY m x λv=>Q v H
 |.kL x=>tH x λv=>Q v H
 |.attr o x=>r.E o m H λv H=>rD H v x λw=>Q w H
 |.bin op a b=>r.E a m H λv H=>r.E b m H λw H=>wU H op v w Q
 |.cmp op a b=>r.E a m H λv H=>r.E b m H λw H=>iz H op v w λb=>Q (.bool b) H
 |.between _ _ _=>False
 |.kM a b=>r.E a m H (jJ λt H=>if t then r.E b m H Q else Q (.bool false) H)
 |.yD a b=>r.E a m H (jJ λt H=>if t then Q (.bool true) H else r.E b m H Q)
 |.jq a=>r.E a m H (jJ λb H=>Q (.bool (!b)) H)
 |.ite c a b=>r.T c m H λt H=>if t then r.E a m H Q else r.E b m H Q
 |.tup es=>nH r es m H λvs H=>alloc H (.tuple vs) Q
 |.lst es=>nH r es m H λvs H=>alloc H (.list vs) Q
 |.m9=>alloc H (.dict []) Q
 |.idx a i=>r.E a m H λv H=>r.E i m H λw H=>Dc H v w λx=>Q x H
 |.AB a k=>r.E a m H λv H=>r.E k m H λw H=>AH H Q v w
 |.rev a=>r.E a m H λv H=>jI H v λxs=>xs.length<1000/\alloc H (.list xs.reverse) Q
 |.dQ f es=>(nX f).isSome=true/\nH r es m H λvs H=>C.fn f vs H Q
 |.new c es=>d5 c=true/\nH r es m H λvs H=>∀a,H a=none->C.aB c .bI (.ref a::vs) (H.upd a (.inst c [])) λv H=>v=.none/\Q (.ref a) H
 |.aB o n es=>r.E o m H λv H=>ki H (λn v kd=>sD kd n=true/\nH r es m H λvs H=>pX C H kd v n vs Q) n v
 |.iZ e c=>r.E e m H (IA c Q)
 |.len e=>r.E e m H λv H=>F9 H v λn=>Q (.int n) H
 |.abs e=>r.E e m H λv H=>IB H Q v
 |.min a b=>r.E a m H λv H=>r.E b m H λw H=>Ga H Q v w
 |.listOf e=>r.E e m H λv H=>jI H v λxs=>xs.length<1000/\alloc H (.list xs) Q
 |.sorted e=>r.E e m H λv H=>jI H v λxs=>Es Q xs H
 |.gw e=>r.E e m H λv H=>jI H v λxs=>AI Q xs H
 |.kU e=>r.E e m H λv H=>sC H Q v
 |.comp elt x it c=>wW r it m H λs H=>s.items.length<1000/\iA r elt (λZ v H Q=>bind1 x v m H Q) s c 0 s.items [] H λvs H=>alloc H (.list vs) Q
 |.kh elt x y it c=>match it with
  |.enum _=>wW r it m H λs H=>s.items.length<1000/\iA r elt (λk v Z Q=>Q (put y v (put x (.int k) m))) s c 0 s.items [] H λvs H=>alloc H (.list vs) Q
  |_=>wW r it m H λs H=>s.items.length<1000/\iA r elt (λZ v H Q=>uR x y v m H Q) s c 0 s.items [] H λvs H=>alloc H (.list vs) Q
def stepT (r:Ev)(e:E)(m:Loc)(H:Hp)(Q:BP):Prop:=match e with
 |.kM a b=>r.T a m H λt H=>if t then r.T b m H Q else Q false H
 |.yD a b=>r.T a m H λt H=>if t then Q true H else r.T b m H Q
 |.jq a=>r.T a m H λt H=>Q (!t) H
 |.cmp op a b=>r.E a m H λv H=>r.E b m H λw H=>iz H op v w λb=>Q b H
 |.between a b c=>r.E a m H λu H=>r.E b m H λv H=>iz H .le u v λt=>if t then r.E c m H λw H=>iz H .lt v w λb=>Q b H else Q false H
 |.ite _ _ _=>False
 |e=>r.E e m H (jJ Q)
def AJ (C:Calls)(r:Ev)(s:S)(m:Loc)(H:Hp)(Q:FP):Prop:=match s with
 |.expr e=>r.E e m H λZ H=>Q .next m H
 |.asg x e=>r.E e m H λv H=>Q .next (put x v m) H
 |.ag o x e=>r.E e m H λw H=>r.E o m H λv H=>fJ H v x w λH=>Q .next m H
 |.i3 o i e=>r.E e m H λw H=>r.E o m H λv H=>r.E i m H λj H=>oX H v j w λH=>Q .next m H
 |.unpack xs e=>r.E e m H (IE xs m λm H=>Q .next m H)
 |.pW x y a b=>r.E a m H λv H=>r.E b m H λw H=>Q .next (put x v (put y w m)) H
 |.aug x op e=>nY m x λv=>r.E e m H λw H=>uP op v w λu=>Q .next (put x u m) H
 |.gW o x op e=>r.E o m H λv H=>rD H v x λu=>r.E e m H λw H=>uP op u w λz=>fJ H v x z λH=>Q .next m H
 |.ez c t e=>r.T c m H λb H=>if b then eK r t m H Q else eK r e m H Q
 |.ret e=>r.E e m H λv H=>Q (.ret v) m H
 |.iy x it b=>wW r it m H λs H=>nZ r (bind1 x) s b s.items m H Q
 |.yE x y it b=>wW r it m H λs H=>nZ r (uR x y) s b s.items m H Q
 |.nS b=>eK r b m H Q
 |.nT o i=>r.E o m H λv H=>r.E i m H λw H=>IF H (λH=>Q .next m H) v w
 |.pass=>Q .next m H
 |.brk=>Q .brk m H
 |.dead=>False
noncomputable def ev (C:Calls):Nat->Ev
 |0=>⟨λZ Z Z Z=>False,λZ Z Z Z=>False,λZ Z Z Z=>False⟩
 |n+1=>⟨tI C (ev C n),stepT (ev C n),AJ C (ev C n)⟩
noncomputable def pad:List Nm->List V->Loc
 |[],_=>[]
 |x::xs,v::vs=>(x,v)::pad xs vs
 |x::xs,[]=>(x,.none)::pad xs []
def cZ:List Nm:=[.aa,.aW,.bX,.gU,.mA,.eJ,.d9]
def nc (C:Calls)(f:Fn)(vs:List V)(H:Hp)(Q:VP):Prop:=
 (vs.length=f.params.length\/(vs.length=3/\f.params=cZ))/\eK (ev C 40) f.body (pad f.params vs) H λfl Z H=>match fl with
  |.ret v=>Q v H
  |.next=>Q .none H
  |.brk=>False
noncomputable def aj:Nat->Calls
 |0=>⟨λZ Z Z Z=>False,λZ Z Z Z Z=>False⟩
 |k+1=>⟨λf vs H Q=>match nX f with|some g=>nc (aj k) g vs H Q|none=>False,
   λc n vs H Q=>match meths c n with|some g=>nc (aj k) g vs H Q|none=>False⟩
theorem qS {P:Prop}(h:false=true):P:=Bool.noConfusion h
theorem Qo {P:Prop}(h:Nat.beq n n=false):P:=absurd ((Nat.beq_refl n).symm.trans h) Bool.noConfusion
theorem ip {a b:Option α}{P:Prop}(h:Nat.beq a.ctorIdx b.ctorIdx=false)(e:a=b):P:=Qo (e▸h)
theorem wX {a b:List α}{P:Prop}(h:Nat.beq a.ctorIdx b.ctorIdx=false)(e:a=b):P:=Qo (e▸h)
theorem IG {a b:Bool}{P:Prop}(h:Nat.beq a.ctorIdx b.ctorIdx=false)(e:a=b):P:=Qo (e▸h)
end
end
section
open PySem PySem.W PySem.Calls PyProof.Rows PySem.Spec
noncomputable def Nm.s (n:Nm):Str:=Str.ofString n.txt
def VR:V->Value->Prop
 |.none,c=>c=.none
 |.bool b,c=>c=.bool b
 |.int i,c=>∃t,c=.int i t
 |.str n,c=>∃t,c=.str n.s t
 |.ref a,c=>c=.ref a
def dK:List V->List Value->Prop
 |[],[]=>True
 |v::vs,c::cs=>VR v c/\dK vs cs
 |_,_=>False
def FR:NV->List DictEntry->Prop
 |[],[]=>True
 |p::fs,e::es=>(∃t,e.key=.str p.1.s t)/\VR p.2 e.val/\FR fs es
 |_,_=>False
def DR:List (Int×V)->List (Int×Value)->Prop
 |[],[]=>True
 |p::fs,e::es=>e.1=p.1/\VR p.2 e.2/\DR fs es
 |_,_=>False
abbrev Cell:=Option Nat×Addr×Obj
noncomputable def nw (cs:List Cell):List (Addr×Obj):=cs.map (·.2)
noncomputable abbrev uS (its:Array Value)(n:Nat):Obj:={cls:=.type "tuple",data:=.seq its n}
structure Px where
 prog:Program
 w:World
 cls:Nm->Addr
 fa:Nm->Addr
 ma:Nm->Nm->Addr
 P:Params
 base:Heap
def Gb.ZF (X:Px)(cs:List Cell)(a:Nat)(c:Nm)(fs:NV)(Z:Prop):Prop:=∀(dx:Addr)(es:List DictEntry)(n:Nat)(h1:(some a,a,instObj (X.cls c) dx)∈cs)(h2:(some a,dx,dictOf es n)∈cs)(h3:FR fs es)(h4:d5 c=true)(h5:∀p∈fs,attrOk c p.1=true),Z
def Gb (X cs a c fs):=∀Z:Prop,Gb.ZF X cs a c fs Z->Z
theorem Gb.mk:Gb.ZF X cs a c fs (Gb X cs a c fs):=λdx es n h1 h2 h3 h4 h5 _ Z=>Z dx es n h1 h2 h3 h4 h5
def Gd.ZF (cs:List Cell)(a:Nat)(xs:List V)(Z:Prop):Prop:=∀(vs:Array Value)(n:Nat)(h1:(some a,a,listOf vs n)∈cs)(h2:dK xs vs.toList),Z
def Gd (cs a xs):=∀Z:Prop,Gd.ZF cs a xs Z->Z
theorem Gd.mk:Gd.ZF cs a xs (Gd cs a xs):=λvs n h1 h2 _ Z=>Z vs n h1 h2
def Ge.ZF (cs:List Cell)(a:Nat)(xs:List V)(Z:Prop):Prop:=∀(vs:Array Value)(n:Nat)(h1:(some a,a,uS vs n)∈cs)(h2:dK xs vs.toList),Z
def Ge (cs a xs):=∀Z:Prop,Ge.ZF cs a xs Z->Z
theorem Ge.mk:Ge.ZF cs a xs (Ge cs a xs):=λvs n h1 h2 _ Z=>Z vs n h1 h2
def Gf.ZF (X:Px)(cs:List Cell)(a:Nat)(ds:List (Int×V))(Z:Prop):Prop:=∀(o:Obj)(lQ:List (Int×Value))(h1:(some a,a,o)∈cs)(h2:o.IsDictOf (PySem.intKind X.prog X.w) lQ)(h3:(a==sysModules)=false)(h4:DR ds lQ),Z
def Gf (X cs a ds):=∀Z:Prop,Gf.ZF X cs a ds Z->Z
theorem Gf.mk:Gf.ZF X cs a ds (Gf X cs a ds):=λo lQ h1 h2 h3 h4 _ Z=>Z o lQ h1 h2 h3 h4
def Gg.ZF (cs:List Cell)(a:Nat)(Z:Prop):Prop:=∀(o:Obj)(h1:(some a,a,o)∈cs),Z
def Gg (cs a):=∀Z:Prop,Gg.ZF cs a Z->Z
theorem Gg.mk:Gg.ZF cs a (Gg cs a):=λo h1 _ Z=>Z o h1
def Gi.ZF (X:Px)(a:Nat)(xs:List Int)(Z:Prop):Prop:=∀(vs:List Value)(h1:X.base.IsList a vs.toArray)(h2:IntsAre vs xs),Z
def Gi (X a xs):=∀Z:Prop,Gi.ZF X a xs Z->Z
theorem Gi.mk:Gi.ZF X a xs (Gi X a xs):=λvs h1 h2 _ Z=>Z vs h1 h2
def i4 (X:Px)(cs:List Cell)(a:Nat):O->Prop
 |.inst c fs=>Gb X cs a c fs
 |.list xs=>Gd cs a xs
 |.tuple xs=>Ge cs a xs
 |.dict ds=>Gf X cs a ds
 |.bytes=>Gg cs a
 |.ro xs=>Gi X a xs
def Rep.ZF (X:Px)(cs:List Cell)(H:Hp)(Z:Prop):Prop:=∀(nd:(cs.map (·.2.1)).Nodup)(rep:∀a o,H a=some o->i4 X cs a o),Z
def Rep (X cs H):=∀Z:Prop,Rep.ZF X cs H Z->Z
theorem Rep.mk:Rep.ZF X cs H (Rep X cs H):=λnd rep _ Z=>Z nd rep
def Rep.nd (Z:Rep X cs H):=Z _ λnd rep=>nd
def Rep.rep (Z:Rep X cs H):=Z _ λnd rep=>rep
def dJ (cs cs':List Cell):Prop:=∀c∈cs,c.1=none->c∈cs'
theorem dJ.refl:dJ cs cs:=λZ h Z=>h
theorem dJ.trans (x:dJ a b)(y:dJ b c):dJ a c:=λZ h n=>y _ (x _ h n) n
theorem n3 (h:c∈pre++x::post)(dw:c≠x):c∈pre++y::post:=by
 rcases List.mem_append.mp h with h|h
 ·exact List.mem_append_left _ h
 ·rcases List.mem_cons.mp h with h|h
  ·exact absurd h dw
  ·exact List.mem_append_right _ (.tail _ h)
theorem i4.set (dw:b≠a)(h:i4 X (pre++(some a,x,ob)::post) b o):i4 X (pre++(some a,x,ob')::post) b o:=by
 have k:∀z o',(some b,z,o')∈pre++(some a,x,ob)::post->(some b,z,o')∈pre++(some a,x,ob')::post:=λz o' hm=>
  n3 hm (λe=>dw (Option.some.inj (congrArg Prod.fst e)))
 induction o with
 |inst c fs=>refine h _ λdx es n h1 h2 h3 h4 h5=>?_;exact (.mk dx es n (k _ _ h1) (k _ _ h2) h3 h4 h5)
 |list xs=>refine h _ λvs n h1 h2=>?_;exact (.mk vs n (k _ _ h1) h2)
 |tuple xs=>refine h _ λvs n h1 h2=>?_;exact (.mk vs n (k _ _ h1) h2)
 |dict ds=>refine h _ λvs n h1 h2 h3 h4=>?_;exact (.mk vs n (k _ _ h1) h2 h3 h4)
 |bytes=>refine h _ λo h1=>?_;exact (.mk o (k _ _ h1))
 |ro xs=>exact h
theorem i4.more (k:∀c∈cs,c∈cs') (h:i4 X cs b o):i4 X cs' b o:=by
 induction o with
 |inst c fs=>refine h _ λdx es n h1 h2 h3 h4 h5=>?_;exact (.mk dx es n (k _ h1) (k _ h2) h3 h4 h5)
 |list xs=>refine h _ λvs n h1 h2=>?_;exact (.mk vs n (k _ h1) h2)
 |tuple xs=>refine h _ λvs n h1 h2=>?_;exact (.mk vs n (k _ h1) h2)
 |dict ds=>refine h _ λvs n h1 h2 h3 h4=>?_;exact (.mk vs n (k _ h1) h2 h3 h4)
 |bytes=>refine h _ λo h1=>?_;exact (.mk o (k _ h1))
 |ro xs=>exact h
set_option tactic.hygienic true in
theorem Rep.set (R:Rep X (pre++(some a,x,ob)::post) H)(hO:i4 X (pre++(some a,x,ob')::post) a o'):
  Rep X (pre++(some a,x,ob')::post) (H.upd a o'):=by
 refine (.mk (by have:=R.nd;simpa using this) (λb o hb=>?_));unfold Hp.upd at hb;split at hb
 ·rename_i e;subst e;cases hb;exact hO
 ·rename_i e;exact i4.set e (R.rep b o hb)
set_option tactic.hygienic true in
theorem Rep.new (R:Rep X cs H)(hf:∀c∈cs,c.2.1≠a) (hO:i4 X ((some a,a,ob)::cs) a o'):Rep X ((some a,a,ob)::cs) (H.upd a o'):=by
 refine (.mk ?_ (λb o hb=>?_))
 ·rw [List.map_cons,List.nodup_cons]
  refine ⟨λh=>?_,R.nd⟩;refine aQ (List.mem_map.mp h) λc hc e=>?_;exact hf c hc e
 ·unfold Hp.upd at hb
  split at hb
  ·rename_i e;subst e;cases hb;exact hO
  ·rename_i e;exact (R.rep b o hb).more λc hc=>.tail _ hc
def cO.ZF (s s':Shared)(Z:Prop):Prop:=∀(g:s'.gens=s.gens)(o:s'.os=s.os)(o2:s'.os=s.os),Z
def cO (s s'):=∀Z:Prop,cO.ZF s s' Z->Z
theorem cO.mk:cO.ZF s s' (cO s s'):=λg o o2 _ Z=>Z g o o2
def cO.g (Z:cO s s'):=Z _ λg o o2=>g
def cO.o (Z:cO s s'):=Z _ λg o o2=>o
def cO.o2 (Z:cO s s'):=Z _ λg o o2=>o2
theorem cO.refl:cO s s:=(.mk rfl rfl rfl)
theorem cO.of (h:cO b c)(e1:b.gens=a.gens)(e2:b.os=a.os):cO a c:=(.mk (h.g.trans e1) (h.o.trans e2) (h.o.trans e2))
theorem cO.trans (x:cO a b)(y:cO b c):cO a c:=(.mk (y.g.trans x.g) (y.o.trans x.o) (y.o.trans x.o))
noncomputable def ng (sc:Scope)(x:Nm):Bool:=match sc.names.lookup x.s with
 |some .local=>true
 |some .cell=>true
 |some .free=>true
 |_=>false
noncomputable def cq (sc:Scope)(x:Str):Bool:=sc.names.lookup x==some .globalImplicit
noncomputable def bz (sc:Scope)(x:Nm):Bool:=sc.names.lookup x.s==some .local
noncomputable def yP (x:Nm):Bool:=x.s==("__debug__":Str)
noncomputable def opM (o:Op):Operator:=Vj.casesOn o .Add .Sub .Mult .Mod
noncomputable def cpM (o:Cp):CmpOp:=Vk.casesOn o .Eq .NotEq .Lt .LtE .Gt .Is .IsNot .In .NotIn
abbrev MU (o:Op)(p:Operator):Prop:=p=opM o
abbrev Vn (o:Cp)(p:CmpOp):Prop:=p=cpM o
noncomputable def iB (sc bY:Scope)(xs:List Nm):Bool:=bY.kind==.function&&bY.names.all (λy=>y.2!=.cell)&&bY.names.all (λy=>y.2!=.local||(bY.names.lookup y.1==some .local&&(y.1==(".0":Str)||xs.any λx=>x.s==y.1)))&&
 bY.names.all (λy=>y.2!=.free||(sc.kind==.function&&sc.names.lookup y.1==some .cell))&&xs.all λx=>bY.names.lookup x.s==some .local
noncomputable def dR (bY:Scope):Scope:={bY with names:=bY.names.map λn=>if n.2==.free then (n.1,.cell) else n}
noncomputable def gX:It->Bool
 |.enum _=>false
 |_=>true
def II (c:Nm):Bool:=c==.fT||c==.eE||c==.dz
def tJ (n:Nm):Bool:=n==.b5||n==.kT||n==.dH||n==.uH||n==.uI||n==.jl
def nh (f:Nm):Bool:=f==.nP||f==.eS||f==.iT||f==.gK
def pY (c:Nm):Bool:=c==.eF
def lR (c n:Nm):Bool:=tJ n||(pY c&&n==.bI)
inductive NA:PySem.Expr->Prop
 |name (i p):NA (.Name i p)|attr (v a p):NA (.Attribute v a p)
inductive MI (R:Internal.E->PySem.Expr->Prop)(sc:Scope):It->PySem.Expr->Prop
 |over (e x) (h:R e x):MI R sc (.over e) x
 |range (e x p q) (g:cq sc "range"=true) (h:R e x):MI R sc (.range e) (.Call (.Name "range" p) [x] [] q)
 |mD (a b x y p q) (g:cq sc "range"=true) (h:R a x) (h':R b y):MI R sc (.mD a b) (.Call (.Name "range" p) [x,y] [] q)
 |enum (e x p q) (g:cq sc "enumerate"=true) (h:R e x):MI R sc (.enum e) (.Call (.Name "enumerate" p) [x] [] q)
inductive MC (R:Internal.E->PySem.Expr->Prop):Option Internal.E->List PySem.Expr->Prop
 |none:MC R none []
 |some (c p) (h:R c p):MC R (some c) [p]
inductive MV (R:Scope->Internal.E->PySem.Expr->Prop)(sc:Scope):Internal.E->PySem.Expr->Prop
 |none (k p):MV R sc .none (.Constant .none k p)
 |tt (k p):MV R sc .tt (.Constant (.bool true) k p)
 |ff (k p):MV R sc .ff (.Constant (.bool false) k p)
 |int (i k p):MV R sc (.int i) (.Constant (.int i) k p)
 |str (x k p):MV R sc (.str x) (.Constant (.str x.s) k p)
 |var (x p) (h:ng sc x=true) (d:yP x=false):MV R sc (.var x) (.Name x.s p)
 |kL (x p) (h:cq sc x.s=true) (d:yP x=false):MV R sc (.kL x) (.Name x.s p)
 |attr (o x v p) (hv:NA v) (h:R sc o v):MV R sc (.attr o x) (.Attribute v x.s p)
 |bin (op po a b x y p) (ho:MU op po) (h1:R sc a x) (h2:R sc b y):MV R sc (.bin op a b) (.BinOp x po y p)
 |tup (es ps k p) (hz:ps.length<1000) (h:bZ (R sc) es ps):MV R sc (.tup es) (.Tuple ps k p)
 |lst (es ps p) (hz:ps.length<1000) (h:bZ (R sc) es ps):MV R sc (.lst es) (.List ps p)
 |m9 (p):MV R sc .m9 (.Dict [] [] p)
 |idx (a i x y p) (h1:R sc a x) (h2:R sc i y):MV R sc (.idx a i) (.Subscript x y p)
 |AB (a k i p0 u p q) (h1:R sc a (.Name i p0)) (h2:R sc k u):MV R sc (.AB a k) (.Subscript (.Name i p0) (.Slice none (some u) none p) q)
 |rev (a i p0 kk p1 p2 p q) (h1:R sc a (.Name i p0)):MV R sc (.rev a) (.Subscript (.Name i p0) (.Slice none none (some (.UnaryOp .USub (.Constant (.int 1) kk p1) p2)) p) q)
 |dQ (f es ps p q) (hp:nh f=false) (hg:cq sc f.s=true) (hd:yP f=false) (h:bZ (R sc) es ps):MV R sc (.dQ f es) (.Call (.Name f.s p) ps [] q)
 |new (c es ps p q) (hp:pY c=false) (hg:cq sc c.s=true) (hd:yP c=false) (h:bZ (R sc) es ps):MV R sc (.new c es) (.Call (.Name c.s p) ps [] q)
 |aB (o n es v ps p q) (hp:tJ n=false) (hi:(n==.bI)=false) (hl:(p.endLine==q.line)=true) (hz:ps.length<30) (hv:NA v) (ho:R sc o v) (h:bZ (R sc) es ps):MV R sc (.aB o n es) (.Call (.Attribute v n.s p) ps [] q)
 |iZ (e c x p p2 q) (g:cq sc "isinstance"=true) (hc:II c=true) (h:R sc e x) (hg:cq sc c.s=true) (hd:yP c=false):MV R sc (.iZ e c) (.Call (.Name "isinstance" p) [x,.Name c.s p2] [] q)
 |len (e x p q) (g:cq sc "len"=true) (h:R sc e x):MV R sc (.len e) (.Call (.Name "len" p) [x] [] q)
 |abs (e x p q) (g:cq sc "abs"=true) (h:R sc e x):MV R sc (.abs e) (.Call (.Name "abs" p) [x] [] q)
 |min (a b x y p q) (g:cq sc "min"=true) (h:R sc a x) (h':R sc b y):MV R sc (.min a b) (.Call (.Name "min" p) [x,y] [] q)
 |listOf (e x p q) (g:cq sc "list"=true) (h:R sc e x):MV R sc (.listOf e) (.Call (.Name "list" p) [x] [] q)
 |sorted (e x p q) (g:cq sc "sorted"=true) (h:R sc e x):MV R sc (.sorted e) (.Call (.Name "sorted" p) [x] [] q)
 |gw (e x p q p2 q2) (g:cq sc "sorted"=true) (g2:cq sc "set"=true) (h:R sc e x):MV R sc (.gw e) (.Call (.Name "sorted" p) [.Call (.Name "set" p2) [x] [] q2] [] q)
inductive Eu (R:Scope->Internal.E->PySem.Expr->Prop)(sc:Scope):Internal.E->PySem.Expr->Prop
 |comp (elt x it c pe p gZ ifs bY q) (ne:gX it=true) (hs:iB sc bY [x]=true) (hi:MI (R sc) sc it gZ) (he:R (dR bY) elt pe) (hc:MC (R (dR bY)) c ifs):Eu R sc (.comp elt x it c) (.ListComp pe [⟨.Name x.s p,gZ,ifs,0⟩] bY q)
 |kh (elt x y it c pe p1 p2 kk p gZ ifs bY q) (hs:iB sc bY [x,y]=true) (hi:MI (R sc) sc it gZ) (he:R (dR bY) elt pe) (hc:MC (R (dR bY)) c ifs):
   Eu R sc (.kh elt x y it c) (.ListComp pe [⟨.Tuple [.Name x.s p1,.Name y.s p2] kk p,gZ,ifs,0⟩] bY q)
noncomputable def RC:Internal.E->Bool
 |.cmp _ _ _=>false
 |.between _ _ _=>false
 |.kM _ _=>false
 |.yD _ _=>false
 |.jq _=>false
 |.ite _ _ _=>false
 |_=>true
noncomputable def MW:PySem.Expr->Bool
 |.Compare _ _ _ _=>false
 |.BoolOp _ _ _=>false
 |.UnaryOp _ _ _=>false
 |.IfExp _ _ _ _=>false
 |.Starred _ _=>false
 |.Slice _ _ _ _=>false
 |.Set _ _ _=>false
 |_=>true
inductive yQ (R:Scope->Internal.E->PySem.Expr->Prop)(sc:Scope):Internal.E->PySem.Expr->Prop
 |val {e pe} (h1:RC e=true) (h2:MW pe=true) (h:MV R sc e pe):yQ R sc e pe
 |lc {e pe} (h:Eu R sc e pe):yQ R sc e pe
 |cmp (op po a b x y p) (ho:Vn op po) (h1:R sc a x) (h2:R sc b y):yQ R sc (.cmp op a b) (.Compare x [po] [y] p)
 |between (a b c x y z p) (h1:R sc a x) (h2:R sc b y) (h3:R sc c z):yQ R sc (.between a b c) (.Compare x [.LtE,.Lt] [y,z] p)
 |kM (a b x y p) (h1:R sc a x) (h2:R sc b y):yQ R sc (.kM a b) (.BoolOp .And [x,y] p)
 |yD (a b x y p) (h1:R sc a x) (h2:R sc b y):yQ R sc (.yD a b) (.BoolOp .Or [x,y] p)
 |jq (a x p) (h:R sc a x):yQ R sc (.jq a) (.UnaryOp .Not x p)
 |ite (c a b z x y p) (h0:R sc c z) (h1:R sc a x) (h2:R sc b y):yQ R sc (.ite c a b) (.IfExp z x y p)
def ME:Nat->Scope->Internal.E->PySem.Expr->Prop
 |0=>λZ Z Z=>False
 |n+1=>yQ (ME n)
inductive HQ (sc:Scope):List Nm->List PySem.Expr->Prop
 |nil:HQ sc [] []
 |cons (x xs p ps) (hx:bz sc x=true) (h:HQ sc xs ps):HQ sc (x::xs) (.Name x.s p::ps)
noncomputable def mG:PySem.Expr->Bool
 |.ListComp _ _ _ _=>false
 |.SetComp _ _ _ _=>false
 |.DictComp _ _ _ _ _=>false
 |_=>true
inductive sE (sc:Scope)(id:Str)(pos:Pos):PySem.Expr->Prop
 |mk (e gs s p) (hk:(sc.kind==.function)=true) (hl:(pos.line==p.line)=true) (hn:(s.names.any λn=>n.1==id&&(n.2==.local||n.2==.cell))=false):sE sc id pos (.ListComp e gs s p)
inductive lz (RE RL:Internal.E->PySem.Expr->Prop)(RB:List Internal.S->List Stmt->Prop)(sc:Scope):Internal.S->Stmt->Prop
 |expr (e v p) (hc:mG v=true) (h:RE e v):lz RE RL RB sc (.expr e) (.Expr v p)
 |asg (x e p v q) (hx:bz sc x=true) (hc:mG v=true) (h:RE e v):lz RE RL RB sc (.asg x e) (.Assign [.Name x.s p] v q)
 |Vo (x e p v q) (hx:bz sc x=true) (hc:sE sc x.s p v) (h:RL e v):lz RE RL RB sc (.asg x e) (.Assign [.Name x.s p] v q)
 |ag (o x e ov p v q) (h1:RE o ov) (h2:RE e v):lz RE RL RB sc (.ag o x e) (.Assign [.Attribute ov x.s p] v q)
 |i3 (o i e ov iv p v q) (h1:RE o ov) (h2:RE i iv) (h3:RE e v):lz RE RL RB sc (.i3 o i e) (.Assign [.Subscript ov iv p] v q)
 |unpack (xs e ts kk p f as kw cp q) (hx:HQ sc xs ts) (h:RE e (.Call f as kw cp)):lz RE RL RB sc (.unpack xs e) (.Assign [.Tuple ts kk p] (.Call f as kw cp) q)
 |pW (x y a b p1 p2 k1 q1 es ep Ei UA k2 q2 q) (ne:x≠y) (hx:bz sc x=true) (hy:bz sc y=true) (h1:RE a (.List es ep)) (h2:RE b (.List Ei UA)) (hl:(p1.line==p2.line)=true):
   lz RE RL RB sc (.pW x y a b) (.Assign [.Tuple [.Name x.s p1,.Name y.s p2] k1 q1] (.Tuple [.List es ep,.List Ei UA] k2 q2) q)
 |aug (x op e p po v q) (hx:bz sc x=true) (ho:MU op po) (h:RE e v):lz RE RL RB sc (.aug x op e) (.AugAssign (.Name x.s p) po v q)
 |gW (o x op e ov p po v q) (ho:MU op po) (h1:RE o ov) (h:RE e v):lz RE RL RB sc (.gW o x op e) (.AugAssign (.Attribute ov x.s p) po v q)
 |ez (c t e pc pt pe q) (h:RE c pc) (ht:RB t pt) (he:RB e pe):lz RE RL RB sc (.ez c t e) (.If pc pt pe q)
 |ret (e v q) (h:RE e v):lz RE RL RB sc (.ret e) (.Return (some v) q)
 |Vp (q):lz RE RL RB sc (.ret .none) (.Return none q)
 |iy (x it b p gZ pb q) (ne:gX it=true) (hx:bz sc x=true) (hi:MI RE sc it gZ) (hb:RB b pb):lz RE RL RB sc (.iy x it b) (.For (.Name x.s p) gZ pb [] q)
 |yE (x y it b p1 p2 kk p gZ pb q) (ne:gX it=true) (hx:bz sc x=true) (hy:bz sc y=true) (hi:MI RE sc it gZ) (hb:RB b pb):lz RE RL RB sc (.yE x y it b) (.For (.Tuple [.Name x.s p1,.Name y.s p2] kk p) gZ pb [] q)
 |nS (b pb h hs q) (hb:RB b pb):lz RE RL RB sc (.nS b) (.Try pb (h::hs) [] [] q)
 |nT (o i ov iv p q) (h1:RE o ov) (h2:RE i iv):lz RE RL RB sc (.nT o i) (.Delete [.Subscript ov iv p] q)
 |pass (q):lz RE RL RB sc .pass (.Pass q)
 |brk (q):lz RE RL RB sc .brk (.Break q)
 |dead (p):lz RE RL RB sc .dead p
def MS:Nat->Scope->Internal.S->Stmt->Prop
 |0=>λZ Z Z=>False
 |n+1=>λsc=>lz (ME 30 sc) (Eu (ME 29) sc) (bZ (MS n sc)) sc
inductive Dd (sc:Scope):Internal.E->PySem.Expr->Prop
 |dQ (f es ps p q) (hp:nh f=true) (hg:cq sc f.s=true) (hd:yP f=false) (h:bZ (ME 30 sc) es ps):Dd sc (.dQ f es) (.Call (.Name f.s p) ps [] q)
 |new (c es ps p q) (hp:pY c=true) (hg:cq sc c.s=true) (hd:yP c=false) (h:bZ (ME 30 sc) es ps):Dd sc (.new c es) (.Call (.Name c.s p) ps [] q)
 |aB (o n es v ps p q) (hp:tJ n=true) (hl:(p.endLine==q.line)=true) (hz:ps.length<30) (hv:NA v) (ho:ME 30 sc o v) (h:bZ (ME 30 sc) es ps):Dd sc (.aB o n es) (.Call (.Attribute v n.s p) ps [] q)
 |kU (e x p q) (g:cq sc "bytearray"=true) (h:ME 30 sc e x):Dd sc (.kU e) (.Call (.Name "bytearray" p) [x] [] q)
inductive zY (RB:List Internal.S->List Stmt->Prop)(sc:Scope):Internal.S->Stmt->Prop
 |plain (s p) (h:MS 40 sc s p):zY RB sc s p
 |expr (e v p) (h:Dd sc e v):zY RB sc (.expr e) (.Expr v p)
 |asg (x e p v q) (hx:bz sc x=true) (h:Dd sc e v):zY RB sc (.asg x e) (.Assign [.Name x.s p] v q)
 |ag (o x e ov p v q) (h1:ME 30 sc o ov) (h2:Dd sc e v):zY RB sc (.ag o x e) (.Assign [.Attribute ov x.s p] v q)
 |unpack (xs e ts kk p f as kw cp q) (hx:HQ sc xs ts) (h:Dd sc e (.Call f as kw cp)):zY RB sc (.unpack xs e) (.Assign [.Tuple ts kk p] (.Call f as kw cp) q)
 |ez (c t e pc pt pe q) (h:ME 30 sc c pc) (ht:RB t pt) (he:RB e pe):zY RB sc (.ez c t e) (.If pc pt pe q)
 |ifN (c t e pc pt pe p q) (h:Dd sc c pc) (ht:RB t pt) (he:RB e pe):zY RB sc (.ez (.jq c) t e) (.If (.UnaryOp .Not pc p) pt pe q)
 |iy (x it b p gZ pb q) (ne:gX it=true) (hx:bz sc x=true) (hi:MI (ME 30 sc) sc it gZ) (hb:RB b pb):zY RB sc (.iy x it b) (.For (.Name x.s p) gZ pb [] q)
 |nS (b pb h hs q) (hb:RB b pb):zY RB sc (.nS b) (.Try pb (h::hs) [] [] q)
def Qp:Nat->Scope->Internal.S->Stmt->Prop
 |0=>λZ Z Z=>False
 |n+1=>λsc=>zY (bZ (Qp n sc)) sc
noncomputable abbrev Vq (sc:Scope)(loc:Addr)(cl:List (Str×Addr))(q:Str)(fn:Option Addr)(cd:Value)(L:Addr):Env:=
 {scope:=sc,locals:=loc,globals:=mainGlobals,cells:=cl,qual:=q,func:=fn,code:=cd,frame:=some L,builtins:=builtinsNs}
structure Cx where
 K:Frag
 X:Px
 p:Program
 loose:List Str
 mg:OV
 mb:OV
noncomputable abbrev Cx.prog (Γ:Cx):Program:=Γ.X.prog
noncomputable abbrev Cx.w (Γ:Cx):World:=Γ.X.w
structure Gx (Γ:Cx) where
 A:Around
 h₀:Heap
 L:Addr
 sc:Scope
 loc:Addr
 cl:List (Str×Addr)
 q:Str
 fn:Option Addr
 cd:Value
 MX:Env
 outer:List Env
 base:Heap
 A₀:Around
noncomputable def Gx.env {Γ:Cx}(G:Gx Γ):Env:=Vq G.sc G.loc G.cl G.q G.fn G.cd G.L
def Gx.Ok.ZF {Γ:Cx}(G:Gx Γ)(k:Nat)(Z:Prop):Prop:=∀(hh:G.A.handled=none)(nu:Γ.K.In G.h₀)(top:TopRead Γ.p Γ.loose Γ.mg Γ.mb G.h₀)(below:Below G.A₀ G.base G.outer G.h₀)(fr:G.A.frames=some (G.MX::G.outer))(ff:G.MX.frame=some G.L)(fk:G.MX.scope.kind=.function)(kind:G.sc.kind=.function)(cells:∀x,G.sc.names.lookup x=some .cell->(G.cl.lookup x).isSome=true) (ro:Γ.X.base.StaysIn G.h₀) (depth:G.A.depth+k<recursionLimit) (units:G.A.units+4*k+100<cLine),Z
def Gx.Ok {Γ}(G k):=∀Z:Prop,Gx.Ok.ZF (Γ:=Γ) G k Z->Z
theorem Gx.Ok.mk:Gx.Ok.ZF (Γ:=Γ) G k (Gx.Ok (Γ:=Γ) G k):=λhh nu top below fr ff fk kind cells ro depth units _ Z=>Z hh nu top below fr ff fk kind cells ro depth units
def Gx.Ok.hh (Z:Gx.Ok (Γ:=Γ) G k):=Z _ λhh nu top below fr ff fk kind cells ro depth units=>hh
def Gx.Ok.nu (Z:Gx.Ok (Γ:=Γ) G k):=Z _ λhh nu top below fr ff fk kind cells ro depth units=>nu
def Gx.Ok.top (Z:Gx.Ok (Γ:=Γ) G k):=Z _ λhh nu top below fr ff fk kind cells ro depth units=>top
def Gx.Ok.below (Z:Gx.Ok (Γ:=Γ) G k):=Z _ λhh nu top below fr ff fk kind cells ro depth units=>below
def Gx.Ok.fr (Z:Gx.Ok (Γ:=Γ) G k):=Z _ λhh nu top below fr ff fk kind cells ro depth units=>fr
def Gx.Ok.ff (Z:Gx.Ok (Γ:=Γ) G k):=Z _ λhh nu top below fr ff fk kind cells ro depth units=>ff
def Gx.Ok.fk (Z:Gx.Ok (Γ:=Γ) G k):=Z _ λhh nu top below fr ff fk kind cells ro depth units=>fk
def Gx.Ok.kind (Z:Gx.Ok (Γ:=Γ) G k):=Z _ λhh nu top below fr ff fk kind cells ro depth units=>kind
def Gx.Ok.cells (Z:Gx.Ok (Γ:=Γ) G k):=Z _ λhh nu top below fr ff fk kind cells ro depth units=>cells
def Gx.Ok.ro (Z:Gx.Ok (Γ:=Γ) G k):=Z _ λhh nu top below fr ff fk kind cells ro depth units=>ro
def Gx.Ok.depth (Z:Gx.Ok (Γ:=Γ) G k):=Z _ λhh nu top below fr ff fk kind cells ro depth units=>depth
def Gx.Ok.units (Z:Gx.Ok (Γ:=Γ) G k):=Z _ λhh nu top below fr ff fk kind cells ro depth units=>units
inductive AK {Γ:Cx}(G:Gx Γ)(fm:OV)(cs:List Cell)(x:Nm)(v:V):Prop
 |loc (h1:G.loc=G.L) (h2:G.sc.names.lookup x.s=some .local) (cv:Value) (h3:fm x.s=some cv) (h4:VR v cv)
 |cell (h1:G.sc.names.lookup x.s=some .cell) (c:Addr) (o:Obj) (cv:Value) (h2:G.cl.lookup x.s=some c) (h3:(none,c,o)∈cs) (h4:o.data=.cell (some cv)) (h5:VR v cv)
 |ns (h1:G.sc.names.lookup x.s=some .local) (oC:Obj) (m₂:OV) (cv:Value) (h2:(none,G.loc,oC)∈cs) (h3:LCg.NsObj oC m₂) (h4:m₂ x.s=some cv) (h5:VR v cv)
def aw {Γ:Cx}(G:Gx Γ)(fm:OV)(cs:List Cell)(m:Loc):Prop:=∀x v,ng G.sc x=true->look x m=some v->AK G fm cs x v
theorem aw.keep (h:aw G fm cs m)(k:dJ cs cs'):aw G fm cs' m:=λx v hx hv=>by
 induction h x v hx hv with
 |loc h1 h2 cv h3 h4=>exact .loc h1 h2 cv h3 h4
 |cell h1 c o cv h2 h3 h4 h5=>exact .cell h1 c o cv h2 (k _ h3 rfl) h4 h5
 |ns h1 oC m₂ cv h2 h3 h4 h5=>exact .ns h1 oC m₂ cv (k _ h2 rfl) h3 h4 h5
def At.ZF {Γ:Cx}(G:Gx Γ)(fm:OV)(cs:List Cell)(s:Shared)(H:Hp)(Z:Prop):Prop:=∀(F:Fr G.h₀ G.L s.heap fm)(N:News G.h₀ G.L s.heap (nw cs))(R:Rep Γ.X cs H),Z
def At {Γ}(G fm cs s H):=∀Z:Prop,At.ZF (Γ:=Γ) G fm cs s H Z->Z
theorem At.mk:At.ZF (Γ:=Γ) G fm cs s H (At (Γ:=Γ) G fm cs s H):=λF N R _ Z=>Z F N R
def At.F (Z:At (Γ:=Γ) G fm cs s H):=Z _ λF N R=>F
def At.N (Z:At (Γ:=Γ) G fm cs s H):=Z _ λF N R=>N
def At.R (Z:At (Γ:=Γ) G fm cs s H):=Z _ λF N R=>R
inductive bb {Γ:Cx}(G:Gx Γ)(fm:OV)(cs:List Cell)(s:Shared){α β:Type}(R:α->β->Prop)(Q:α->Hp->Prop)(v:β)(s':Shared):Prop
 |Rx (h1:cO s s') (cs':List Cell) (H':Hp) (av:α) (h2:At G fm cs' s' H') (h3:dJ cs cs') (h4:R av v) (h5:Q av H')
theorem bb.mk
  (h1:cO s s')(h2:At G fm cs' s' H')(h3:dJ cs cs')(h4:R av v)(h5:Q av H'):bb G fm cs s R Q v s':=⟨h1,cs',H',av,h2,h3,h4,h5⟩
theorem bb.weak (h:bb G fm uT ba R Q v s')(hs:cO s ba)(k:dJ cs uT):
  bb G fm cs s R Q v s':=by
 obtain ⟨h1,cs',H',av,h2,h3,h4,h5⟩:=h;exact ⟨hs.trans h1,cs',H',av,h2,k.trans h3,h4,h5⟩
def HR {α:Type}(a b:α):Prop:=a=b
abbrev wG {Γ:Cx}(G:Gx Γ){α:Type}(t:Sem α)(Q:α->Shared->Prop)(E:SP)(s:Shared):Prop:=wpAny (model Γ.prog Γ.w) G.A t Q E s
def cE (Γ:Cx)(k:Nat)(r:Ev):Prop:=∀(G:Gx Γ),G.Ok k->∀n e pe m H Q,ME n G.sc e pe->r.E e m H Q->∀fm cs s,At G fm cs s H->aw G fm cs m->
 wG G (eval pe G.env) (bb G fm cs s VR Q) nE s
def nv (Γ:Cx)(k:Nat)(r:Ev):Prop:=∀(G:Gx Γ),G.Ok k->∀n e pe m H Q,ME n G.sc e pe->r.T e m H Q->∀fm cs s,At G fm cs s H->aw G fm cs m->
 wG G (isTrue pe G.env (eval pe G.env)) (bb G fm cs s HR Q) nE s
section
variable {G:Gx Γ}
theorem At.tok (h:At G fm cs s H)(t:Nat):At G fm cs {s with toks:=t} H:=(.mk h.F h.N h.R)
theorem AL (O:G.Ok k)(hm:ng G.sc x=true)(hv:look x m=some v)(hP:∀cv,VR v cv->P cv s)
  (hA:At G fm cs s H) (hL:aw G fm cs m):wG G (loadName G.env x.s) P (λ_ _=>False) s:=by
 induction hL x v hm hv with
 |loc h1 h2 cv h3 h4=>exact wpAny_loadName_local (m:=fm) O.kind h2 (show s.heap.Ns G.loc fm from h1▸hA.F.ns) h3 (hP _ h4)
 |cell h1 c o cv h2 h3 h4 h5=>exact wpAny_loadName_cell O.kind h1 h2 ⟨o,hA.N.get (List.mem_map_of_mem (f:=λc:Cell=>c.2) h3),h4⟩ (hP _ h5)
 |ns h1 oC m₂ cv h2 h3 h4 h5=>exact wpAny_loadName_local (m:=m₂) O.kind h1 (h3.ns (hA.N.get (List.mem_map_of_mem (f:=λc:Cell=>c.2) h2))) h4 (hP _ h5)
theorem MY (O:G.Ok k)(hm:ng G.sc x=true)(hd:(x.s==("__debug__":Str))=false)(hv:look x m=some v)(hq:Q v H)
  (hA:At G fm cs s H)(hL:aw G fm cs m):wG G (eval (.Name x.s pos) G.env) (bb G fm cs s VR Q) nE s:=
 wpAny_Name (AL O hm hv (λZ hr=>.mk .refl hA .refl hr hq) hA hL) hd
theorem oY {id:Str}(O:G.Ok k)(hm:cq G.sc id=true)(hd:(id==("__debug__":Str))=false)(hg:nsIn Γ.K mainGlobals id=some (some cv))
  (hA:At G fm cs s H)(h:Q cv s):wG G (eval (.Name id pos) G.env) Q nE s:=
 Name_function_global O.kind (beq_iff_eq.mp hm) (loadGlobal_global (env:=G.env) (O.top.g.keeps hA.F.keep) (mg_of O.nu O.top.g hg) h) hd
theorem oZ {id:Str}(O:G.Ok k)(hm:cq G.sc id=true)(hd:(id==("__debug__":Str))=false)(hg:nsIn Γ.K mainGlobals id=some none)(hb:bootBuiltins id=some cv)(hn:id≠"__name__")
  (hA:At G fm cs s H)(h:Q cv s):wG G (eval (.Name id pos) G.env) Q nE s:=
 Name_function_global O.kind (beq_iff_eq.mp hm) (loadGlobal_builtin (env:=G.env) (O.top.g.keeps hA.F.keep) (mg_none_of O.nu O.top.g hg) (O.top.b.keeps hA.F.keep) ((O.top.builtins id hn).trans hb) h) hd
theorem Vr:look x ((x,v)::r)=some v:=if_pos rfl
theorem UB (h:y≠x):look x ((y,v)::r)=look x r:=if_neg h
theorem Yn:put x w ((x,v)::r)=(x,w)::r:=if_pos rfl
theorem Vt (h:y≠x):put x w ((y,v)::r)=(y,v)::put x w r:=if_neg h
theorem De {P:List DictEntry->Prop}(h:FR [] es)(k:P []):P es:=
 List.casesOn (motive:=λes=>FR [] es->P es) es (λZ=>k) (λZ Z=>False.elim) h
theorem yR {P:List DictEntry->Prop}(h:FR (p::fs) es)(k:∀e es t,e.key=.str p.1.s t->VR p.2 e.val->FR fs es->P (e::es)):P es:=
 List.casesOn (motive:=λes=>FR (p::fs) es->P es) es False.elim (λe es h=>h.1.elim λt ht=>k e es t ht h.2.1 h.2.2) h
theorem Vu {e:DictEntry}(h:e.key=.str x t):e.key.isStr x=true:=by rw [h];exact beq_self_eq_true x
theorem Vv {e:DictEntry}(h:e.key=.str y t)(dw:y≠x):e.key.isStr x=false:=by rw [h];exact beq_eq_false_iff_ne.mpr dw
theorem RD (h:e.key=.str x t):getL x (e::es)=some (some e.val):=by
 unfold getL;rw [List.find?_cons,Vu h]
theorem MZ (h:e.key=.str y t)(dw:y≠x):getL x (e::es)=getL x es:=by
 unfold getL;rw [List.find?_cons,Vv h dw,List.any_cons,show e.refKey=false by unfold DictEntry.refKey;rw [h],Bool.false_or]
inductive GL (x:Nm)(es:List DictEntry):Option V->Prop
 |some (v cv) (e:getL x.s es=some (some cv)) (h:VR v cv):GL x es (some v)
 |none (e:getL x.s es=some none):GL x es none
theorem yS (lS:∀a b:Nm,a.s=b.s->a=b):∀{es:List DictEntry},FR fs es->GL x es (look x fs):=by
 induction fs with
 |nil=>exact λh=>De (P:=λes=>GL x es none) h (.none rfl)
 |cons p fs ih=>
  refine λh=>yR (P:=λes=>GL x es (look x (p::fs))) h λe es t ht hv hr=>?_;by_cases L7:p.1=x
  ·have e2:look x (p::fs)=some p.2:=if_pos L7
   exact e2▸.some _ _ (RD (L7▸ht)) hv
  ·have g:=ih hr
   have e2:look x (p::fs)=look x fs:=if_neg L7;rw [e2];have e1:=MZ (es:=es) ht λq=>L7 (lS _ _ q);generalize look x fs=o at g;induction g with
   |some v cv e h=>exact .some _ _ (e1.trans e) h
   |none e=>exact .none (e1.trans e)
theorem GL.sm (g:GL x es o)(h:o=Option.some w):∃cv,getL x.s es=Option.some (Option.some cv)/\VR w cv:=by
 induction g with
 |some v cv e q=>exact ⟨cv,e,Option.some.inj h▸q⟩
 |none e=>exact ip rfl h
theorem GL.nn (g:GL x es o)(h:o=Option.none):getL x.s es=Option.some Option.none:=by
 induction g with
 |some v cv e q=>exact ip rfl h
 |none e=>exact e
theorem Gj (lS:∀a b:Nm,a.s=b.s->a=b) (h:FR fs es) (hw:look x fs=some w):∃cv,getL x.s es=some (some cv)/\VR w cv:=(yS lS (x:=x) h).sm hw
theorem IJ (lS:∀a b:Nm,a.s=b.s->a=b) {x:Nm} (h:FR fs es):(getL x.s es).isSome=true:=by
 have g:=yS lS (x:=x) h;generalize look x fs=o at g;induction g with
 |some v cv e h=>rw [e];rfl
 |none e=>rw [e];rfl
theorem RG (h:e.key=.str x t):putL x hsh kv cw (e::es)={e with val:=cw}::es:=if_pos (Vu h)
theorem M0 (h:e.key=.str y t)(dw:y≠x):putL x hsh kv cw (e::es)=e::putL x hsh kv cw es:=if_neg (by rw [Vv h dw];decide)
theorem FR.put (lS:∀a b:Nm,a.s=b.s->a=b) (hw:VR w cw):∀{es:List DictEntry},FR fs es->FR (put x w fs) (putL x.s hsh (.str x.s t) cw es):=by
 induction fs with
 |nil=>exact λh=>De (P:=λes=>FR [(x,w)] (putL x.s hsh (.str x.s t) cw es)) h ⟨⟨t,rfl⟩,hw,trivial⟩
 |cons p fs ih=>
  refine λh=>yR (P:=λes=>FR (Internal.put x w (p::fs)) (putL x.s hsh (.str x.s t) cw es)) h λe es t' ht hv hr=>?_;by_cases L7:p.1=x
  ·have e2:Internal.put x w (p::fs)=(x,w)::fs:=if_pos L7
   rw [e2,RG (L7▸ht)];exact ⟨⟨t',L7▸ht⟩,hw,hr⟩
  ·have e2:Internal.put x w (p::fs)=p::Internal.put x w fs:=if_neg L7
   rw [e2,M0 ht λq=>L7 (lS _ _ q)];exact ⟨⟨t',ht⟩,hv,ih hr⟩
theorem FR.length {fs:NV}:∀{es:List DictEntry},FR fs es->fs.length=es.length:=by
 induction fs with
 |nil=>exact λh=>De (P:=λes=>0=es.length) h rfl
 |cons p fs ih=>exact λh=>yR (P:=λes=>fs.length+1=es.length) h λe es t _ _ r=>congrArg Nat.succ (ih r)
theorem M6 (x:Nm)(w:V)(fs:NV):(put x w fs).length<=fs.length+1:=by
 induction fs with
 |nil=>exact Nat.le_refl 1
 |cons p fs ih=>
  by_cases h:p.1=x
  ·have e2:Internal.put x w (p::fs)=(x,w)::fs:=if_pos h
   rw [e2];exact Nat.le_succ _
  ·have e2:Internal.put x w (p::fs)=p::Internal.put x w fs:=if_neg h
   rw [e2];exact Nat.succ_le_succ ih
theorem M7 {P:Nm->Prop}(hx:P x):(∀p∈fs,P p.1)->∀p∈put x w fs,P p.1:=by
 induction fs with
 |nil=>exact λZ p hp=>List.mem_singleton.mp hp▸hx
 |cons q fs ih=>
  intro h p;by_cases e:q.1=x
  ·have e2:Internal.put x w (q::fs)=(x,w)::fs:=if_pos e
   rw [e2];exact λhp=>(List.mem_cons.mp hp).elim (λe=>e▸hx) λhp=>h p (.tail _ hp)
  ·have e2:Internal.put x w (q::fs)=q::Internal.put x w fs:=if_neg e
   rw [e2];exact λhp=>(List.mem_cons.mp hp).elim (λe=>e▸h _ (.head _)) λhp=>ih (λq hq=>h q (.tail _ hq)) p hp
theorem IK:look x fs=some v->(x,v)∈fs:=by
 induction fs with
 |nil=>exact λh=>ip rfl h
 |cons q fs ih=>
  by_cases e:q.1=x
  ·have e2:look x (q::fs)=some q.2:=if_pos e
   exact λh=>e▸Option.some.inj (e2.symm.trans h)▸.head _
  ·have e2:look x (q::fs)=look x fs:=if_neg e
   exact λh=>.tail _ (ih (e2.symm.trans h))
theorem VR.handed (h:VR v c):handedIn c=true:=by
 induction v with
 |none=>rw [show c=_ from h];rfl
 |bool=>rw [show c=_ from h];rfl
 |int=>obtain ⟨t,rfl⟩:=h;rfl
 |str=>obtain ⟨t,rfl⟩:=h;rfl
 |ref=>rw [show c=_ from h];rfl
def gE.ZF (Γ:Cx)(Z:Prop):Prop:=∀(inj:∀a b:Nm,a.s=b.s->a=b) (hash:Γ.X.P=Γ.w.params) (pg:∀c,d5 c=true->plainGet Γ.K (Γ.X.cls c) "x"=true) (hd:∀c,d5 c=true->hasDictIn Γ.K (Γ.X.cls c)=true) (attr:∀c x,attrOk c x=true->findIn Γ.K (.ref (Γ.X.cls c)) x.s=some none) (set:∀c,d5 c=true->findIn Γ.K (.ref (Γ.X.cls c)) "__setattr__"=some (some (.builtin "object.__setattr__"))) (over:∀c,d5 c=true->plainOver Γ.K (Γ.X.cls c)=true) (lT:∀c x,attrOk c x=true->takerIn Γ.K (Γ.X.cls c) x.s=some none),Z
def gE (Γ):=∀Z:Prop,gE.ZF Γ Z->Z
theorem gE.mk:gE.ZF Γ (gE Γ):=λinj hash pg hd attr set over lT _ Z=>Z inj hash pg hd attr set over lT
def gE.inj (Z:gE Γ):=Z _ λinj hash pg hd attr set over lT=>inj
def gE.hash (Z:gE Γ):=Z _ λinj hash pg hd attr set over lT=>hash
def gE.pg (Z:gE Γ):=Z _ λinj hash pg hd attr set over lT=>pg
def gE.hd (Z:gE Γ):=Z _ λinj hash pg hd attr set over lT=>hd
def gE.attr (Z:gE Γ):=Z _ λinj hash pg hd attr set over lT=>attr
def gE.set (Z:gE Γ):=Z _ λinj hash pg hd attr set over lT=>set
def gE.over (Z:gE Γ):=Z _ λinj hash pg hd attr set over lT=>over
def gE.lT (Z:gE Γ):=Z _ λinj hash pg hd attr set over lT=>lT
theorem bO (h:c∈cs):c.2∈nw cs:=List.mem_map_of_mem h
def o4.ZF {Γ:Cx}{G:Gx Γ}(s:Shared)(cs:List Cell)(a:Nat)(c:Nm)(fs:NV)(Z:Prop):Prop:=∀(dx:Addr)(es:List DictEntry)(n:Nat)(I:InstAt s.heap a (instObj (Γ.X.cls c) dx) (Γ.X.cls c) (some (dictOf es n)))(hf:FR fs es)(hd:(some a,dx,dictOf es n)∈cs)(hi:(some a,a,instObj (Γ.X.cls c) dx)∈cs)(hc:d5 c=true)(hk:∀p∈fs,attrOk c p.1=true),Z
def o4 {Γ G}(s cs a c fs):=∀Z:Prop,o4.ZF (Γ:=Γ) (G:=G) s cs a c fs Z->Z
theorem o4.mk:o4.ZF (Γ:=Γ) (G:=G) s cs a c fs (o4 (Γ:=Γ) (G:=G) s cs a c fs):=λdx es n I hf hd hi hc hk _ Z=>Z dx es n I hf hd hi hc hk
theorem i4.inst (hA:At G fm cs s H)(h:i4 Γ.X cs a (.inst c fs)):o4 (G:=G) s cs a c fs:=by
 refine h _ λdx es n h1 h2 h3 h4 h5=>?_;exact (.mk dx es n (InstAt.of_news hA.N (bO h1) (bO h2)) h3 h2 h1 h4 h5)
theorem AM (KO:gE Γ)(O:G.Ok k)(hA:At G fm cs s H)(hr:VR v cv)(h:rD H v x λw=>Q w H):
  wG G (getAttr cv x.s ex) (bb G fm cs s VR Q) (λ_ _=>False) s:=by
 obtain ⟨a,c,fs,w,hH,hw,h⟩:=h;refine (i4.inst hA (hA.R.rep _ _ hH)) _ λdx es n I hf hd hi hc hk=>?_;refine aQ (Gj KO.inj hf hw) λcw g1 g2=>?_;rw [show cv=_ from hr];exact get_own hA.F O.nu I (KO.pg _ hc) (KO.hd _ hc) (KO.attr _ _ (hk _ (IK hw))) rfl g1 g2.handed (.mk (.mk rfl rfl rfl) (hA.tok _) .refl g2 h)
theorem Upd.at (nd:((pre++(ow,x,o)::post).map (·.2.1)).Nodup):Upd x o o' (nw (pre++(ow,x,o)::post)) (nw (pre++(ow,x,o')::post)):=by
 induction pre with
 |nil=>
  simp only [List.nil_append,List.map_cons,List.nodup_cons] at nd;refine .head λp hp e=>nd.1 ?_;refine aQ (List.mem_map.mp hp) λc hc dp=>?_;subst dp;exact e▸List.mem_map_of_mem (f:=λc:Cell=>c.2.1) hc
 |cons c pre ih=>
  simp only [List.cons_append,List.map_cons,List.nodup_cons] at nd;refine .tail (λe=>nd.1 ?_) (ih nd.2);simp only [e];simp
theorem dJ.set:dJ (pre++(some a,x,o)::post) (pre++(some a,x,o')::post):=λc hc hn=>n3 hc λe=>by rw [e] at hn;injection hn
theorem n4 (KO:gE Γ){Q:Hp->Prop}(O:G.Ok k)(hA:At G fm cs s H)(hr:VR v cv)(hw:VR w cw)(h:fJ H v x w λH=>Q H):
  wG G (setAttr cv x.s cw) (bb G fm cs s HR (λ(Z:Unit) H=>Q H)) (λ_ _=>False) s:=by
 obtain ⟨a,c,fs,hH,hx,hlen,h⟩:=h;refine (i4.inst hA (hA.R.rep _ _ hH)) _ λdx es n I hf hd hi hc hk=>?_;refine (show cv=_ from hr)▸?_;refine tF (List.append_of_mem hd) λpre post e=>?_;have hR:=e▸hA.R;refine set_dict (es':=_) (n':=_) hA.F O.nu (e▸hA.N) I rfl (KO.set _ hc) (KO.over _ hc) (KO.lT _ _ hx) (KO.hd _ hc) (IJ KO.inj hf) rfl (Upd.at hR.nd) ?_ ?_
 ·have h1:=FR.length (FR.put KO.inj (x:=x) (hsh:=PyData.keyHash Γ.w.params x.s) (t:=s.toks+1) hw hf)
  have h2:=M6 x w fs;omega
 ·intro h' F' N'
  refine .mk (.mk rfl rfl rfl) (cs':=pre++(some a,dx,_)::post) (.mk F' N' (Rep.set hR ?_)) (e▸dJ.set) rfl h;have wY:(some a,a,instObj (Γ.X.cls c) dx)∈pre++(some a,dx,dictOf es n)::post:=e▸hi;exact (.mk dx _ _ (n3 wY λq=>(by have:=congrArg (λc:Cell=>c.2.2.cls) q;injection this)) (List.mem_append_right _ (.head _)) (FR.put KO.inj hw hf) hc (M7 (P:=λy=>attrOk c y=true) hx hk))
end
section
variable {G:Gx Γ}
theorem jg {P:List Value->Prop}{cs:List Value}(h:dK [] cs)(k:P []):P cs:=
 List.casesOn (motive:=λcs=>dK [] cs->P cs) cs (λZ=>k) (λZ Z=>False.elim) h
theorem eO {P:List Value->Prop}{cs:List Value}(h:dK (v::vs) cs)(k:∀c cs,VR v c->dK vs cs->P (c::cs)):P cs:=
 List.casesOn (motive:=λcs=>dK (v::vs) cs->P cs) cs False.elim (λc cs h=>k c cs h.1 h.2) h
theorem dK.get {xs:List V}:∀{cs:List Value},dK xs cs->∀{i:Nat}{v:V},xs[i]?=some v->∃c,cs[i]?=some c/\VR v c:=by
 induction xs with
 |nil=>exact λZ i v h=>ip rfl h
 |cons x xs ih=>exact λh i v=>eO (P:=λcs=>(x::xs)[i]?=some v->∃c,cs[i]?=some c/\VR v c) h λc cs h1 h2=>Nat.casesOn i (λe=>⟨c,rfl,Option.some.inj e▸h1⟩) λi e=>ih h2 (i:=i) e
theorem dK.length {xs:List V}:∀{cs:List Value},dK xs cs->xs.length=cs.length:=by
 induction xs with
 |nil=>exact λh=>jg (P:=λcs=>0=cs.length) h rfl
 |cons x xs ih=>exact λh=>eO (P:=λcs=>xs.length+1=cs.length) h λc cs Z h2=>congrArg Nat.succ (ih h2)
theorem dK.append:∀{cs:List Value},dK xs cs->dK ys ds->dK (xs++ys) (cs++ds):=by
 induction xs with
 |nil=>exact λh=>jg (P:=λcs=>dK ys ds->dK ys (cs++ds)) h id
 |cons x xs ih=>exact λh=>eO (P:=λcs=>dK ys ds->dK (x::(xs++ys)) (cs++ds)) h λc cs h1 h2 h'=>⟨h1,ih h2 h'⟩
theorem dK.set {xs:List V}:∀{cs:List Value},dK xs cs->∀{i:Nat}{v:V}{c:Value},VR v c->dK (xs.set i v) (cs.set i c):=by
 induction xs with
 |nil=>exact λh i v c Z=>jg (P:=λcs=>dK [] (cs.set i c)) h trivial
 |cons x xs ih=>exact λh i v c e=>eO (P:=λcs=>dK ((x::xs).set i v) (cs.set i c)) h λc' cs h1 h2=>Nat.casesOn i ⟨e,h2⟩ λi=>⟨h1,ih h2 (i:=i) e⟩
theorem dK.reverse {cs:List Value}(h:dK xs cs):dK xs.reverse cs.reverse:=by
 induction xs generalizing cs with
 |nil=>exact jg (P:=λcs=>dK [] cs.reverse) h trivial
 |cons x xs ih=>exact eO (P:=λcs=>dK (x::xs).reverse cs.reverse) h λc cs h1 h2=>by rw [List.reverse_cons,List.reverse_cons];exact (ih h2).append ⟨h1,trivial⟩
theorem fresh_ne (hA:At G fm cs s H):∀c∈cs,c.2.1≠s.heap.objs.size:=λc hc e=>absurd (Heap.lt_size (hA.N.get (bO hc))) (by rw [e];exact Nat.lt_irrefl _)
theorem uU (O:G.Ok k)(hA:At G fm cs s H):H s.heap.objs.size=none:=by
 induction q:H s.heap.objs.size with
 |none=>rfl
 |some o=>
  exfalso;have h:=hA.R.rep _ _ q;have z:∀ow ob,(ow,s.heap.objs.size,ob)∈cs->False:=λow ob hm=>fresh_ne hA _ hm rfl;induction o with
  |inst c fs=>refine h _ λ_ _ _ h1 _ _ _ _=>?_;exact z _ _ h1
  |list xs=>refine h _ λ_ _ h1 _=>?_;exact z _ _ h1
  |tuple xs=>refine h _ λ_ _ h1 _=>?_;exact z _ _ h1
  |dict ds=>refine h _ λ_ _ h1 _ _ _=>?_;exact z _ _ h1
  |bytes=>refine h _ λ_ h1=>?_;exact z _ _ h1
  |ro xs=>
   refine h _ λvs h1 _=>?_;refine aQ h1 λo ho Z=>?_;exact absurd (Heap.lt_size (hA.F.keep _ _ (O.ro _ _ ho))) (Nat.lt_irrefl _)
theorem At.alloc (O:G.Ok k)(hA:At G fm cs s H)(F':Fr G.h₀ G.L h' fm)(N':News G.h₀ G.L h' ((s.heap.objs.size,ob)::nw cs))
  (hq:alloc H o Q)(ho:i4 Γ.X ((some s.heap.objs.size,s.heap.objs.size,ob)::cs) s.heap.objs.size o){s':Shared}(hs:cO s s')(hh:s'.heap=h'):bb G fm cs s VR Q (.ref s.heap.objs.size) s':=by
 refine ⟨hs,(some s.heap.objs.size,s.heap.objs.size,ob)::cs,_,.ref s.heap.objs.size,(.mk (hh▸F') (hh▸N') (hA.R.new (fresh_ne hA) ho)),λc hc Z=>.tail _ hc,rfl,hq _ (uU O hA)⟩
theorem Gk (O:G.Ok k)(hA:At G fm cs s H)(hv:dK vs cvs)(hz:cvs.length<=sizeLine)(hq:alloc H (.tuple vs) Q):
  wG G (newTuple cvs) (bb G fm cs s VR Q) nE s:=
 newTuple_N hA.F hA.N (λh' F' N'=>hA.alloc O F' N' hq (.mk cvs.toArray 0 (.head _) (by simpa using hv)) (.mk rfl rfl rfl) rfl) hz
theorem IL (O:G.Ok k)(hA:At G fm cs s H)(hv:dK vs cvs)(hz:cvs.length<=sizeLine)(hq:alloc H (.list vs) Q):
  wG G (newList cvs) (bb G fm cs s VR Q) nE s:=
 newList_N hA.F hA.N (λh' F' N'=>hA.alloc O F' N' hq (.mk cvs.toArray 0 (.head _) (by simpa using hv)) (.mk rfl rfl rfl) rfl) hz
def ListIs.ZF (s:Shared)(cs:List Cell)(a:Nat)(xs:List V)(Z:Prop):Prop:=∀(vs:Array Value)(n:Nat)(g:s.heap.get? a=some (listOf vs n))(r:dK xs vs.toList)(m:(some a,a,listOf vs n)∈cs),Z
def ListIs (s cs a xs):=∀Z:Prop,ListIs.ZF s cs a xs Z->Z
theorem ListIs.mk:ListIs.ZF s cs a xs (ListIs s cs a xs):=λvs n g r m _ Z=>Z vs n g r m
def TupIs.ZF (s:Shared)(cs:List Cell)(a:Nat)(xs:List V)(Z:Prop):Prop:=∀(vs:Array Value)(n:Nat)(g:s.heap.get? a=some (uS vs n))(r:dK xs vs.toList)(m:(some a,a,uS vs n)∈cs),Z
def TupIs (s cs a xs):=∀Z:Prop,TupIs.ZF s cs a xs Z->Z
theorem TupIs.mk:TupIs.ZF s cs a xs (TupIs s cs a xs):=λvs n g r m _ Z=>Z vs n g r m
theorem At.list (hA:At G fm cs s H)(h:H a=some (.list xs)):ListIs s cs a xs:=by
 refine (hA.R.rep _ _ h) _ λvs n h1 h2=>?_;exact (.mk vs n (hA.N.get (bO h1)) h2 h1)
theorem At.tuple (hA:At G fm cs s H)(h:H a=some (.tuple xs)):TupIs s cs a xs:=by
 refine (hA.R.rep _ _ h) _ λvs n h1 h2=>?_;exact (.mk vs n (hA.N.get (bO h1)) h2 h1)
theorem Vw (h1:-(2 ^ 30)<i)(h2:i<2 ^ 30)(h3:-(2 ^ 30)<j)(h4:j<2 ^ 30):IntMulOk i j:=by
 mul_fits
theorem dK.Vx (r:dK [x] l):∃c,l=[c]/\VR x c:=by
 induction l using List.casesOn with
 |nil=>exact r.elim
 |cons c l=>induction l with
  |nil=>exact ⟨c,rfl,r.1⟩
  |cons _ _=>exact r.2.elim
theorem AN:∀(k:Nat)(acc:Array Value),(List.foldl (λx1 x2=>x1++x2) acc (List.replicate k #[c])).toList=acc.toList++List.replicate k c:=by
 intro k;induction k with
 |zero=>intro acc;simp
 |succ k ih=>intro acc;simp only [List.replicate_succ,List.foldl_cons,ih,List.replicate_succ];simp
theorem dK.Vy (h:VR x c):∀k,dK (List.replicate k x) (List.replicate k c)
 |0=>trivial
 |k+1=>⟨h,dK.Vy h k⟩
theorem Vz (h:n<1000):n<=sizeLine:=Nat.le_trans (Nat.le_of_lt h) (by decide)
theorem M8 {f:Value->Value->Sem Value}{E:SP}(hv:VR (.int i) cv)(hw:VR (.int j) cw)(k:∀t u,wpAny M A (f (.int i t) (.int j u)) P E s):wpAny M A (f cv cw) P E s:=
 hv.elim λt e=>hw.elim λu e'=>e▸e'▸k t u
theorem M9 (O:G.Ok k)(hA:At G fm cs s H)(xq:MU op po)(hv:VR v cv)(hw:VR w cw)(h:wU H op v w Q):
  wG G (binaryOp po cv cw) (bb G fm cs s VR Q) (λ_ _=>False) s:=by
 subst xq;have fin:∀i t,Q (.int i) H->bb G fm cs s VR Q (.int i t) {s with toks:=s.toks+1}:=λi t hq=>.mk (av:=.int i) (.mk rfl rfl rfl) (hA.tok _) .refl ⟨t,rfl⟩ hq;induction h with
 |add i j h=>exact M8 hv hw λt u=>PyProof.Rows.add_int (fin _ _ h)
 |sub i j h=>exact M8 hv hw λt u=>PyProof.Rows.sub_int (fin _ _ h)
 |mul i j h1 h2 h3 h4 h=>exact M8 hv hw λt u=>PyProof.Rows.mul_int (fin _ _ h) (Vw h1 h2 h3 h4)
 |mod i j h0 h=>exact M8 hv hw λt u=>PyProof.Rows.mod_int (Int.ne_of_gt h0) (Int.fmod_eq_emod_of_nonneg i (Int.le_of_lt h0)▸fin _ _ h)
 |cat a b xs ys hx hy hz h=>
  refine (show cv=_ from hv)▸(show cw=_ from hw)▸?_;refine (hA.list hx) _ λvs n g1 r1 m1=>?_;refine (hA.list hy) _ λws m g2 r2 m2=>?_;refine add_arrays hA.F hA.N ⟨_,g1,rfl,n,rfl⟩ ⟨_,g2,rfl,m,rfl⟩ (λh' F' N'=>hA.alloc O F' N' h (.mk _ 0 (.head _) (by simpa using r1.append r2)) (.mk rfl rfl rfl) rfl) (Vz ?_);replace hz:=(r2.length)▸(r1.length)▸hz;exact hz
 |rep a n x hx h0 h1 h=>
  obtain ⟨u,rfl⟩:=hw;refine (show cv=_ from hv)▸?_;refine (hA.list hx) _ λq1 m g1 r1 m1=>?_;obtain ⟨l⟩:=q1;refine aQ r1.Vx λc dp hc=>?_;subst dp;refine PyProof.Rows.mul_list hA.F hA.N g1 (by omega) (by omega) (show 1*n.toNat<=2 ^ 24 by omega) (λh' F' N'=>hA.alloc O F' N' h (.mk _ 0 (.head _) ?_) (.mk rfl rfl rfl) rfl);simp only [AN];exact dK.Vy hc _
end
section
variable {G:Gx Γ}
theorem eU (bp:cE Γ k r)(O:G.Ok k)(hm:ME n G.sc e pe)(h:r.E e m H Q1)(hA:At G fm cs s H)(hL:aw G fm cs m)
  (next:∀cs' s' H' av v,cO s s'->At G fm cs' s' H'->aw G fm cs' m->dJ cs cs'->VR av v->Q1 av H'->P v s'):wG G (eval pe G.env) P nE s:=
 wpAny_mono (bp G O n e pe m H Q1 hm h fm cs s hA hL) (λx y z=>by induction z with|Rx h1 cs' H' av h2 h3 h4 h5=>exact next cs' _ H' av _ h1 h2 (hL.keep h3) h3 h4 h5) λx y z=>z
theorem Df (i5:nv Γ k r)(O:G.Ok k)(hm:ME n G.sc e pe)(h:r.T e m H Q1)(hA:At G fm cs s H)(hL:aw G fm cs m)
  (next:∀cs' s' H' b,cO s s'->At G fm cs' s' H'->aw G fm cs' m->dJ cs cs'->Q1 b H'->P b s'):wG G (isTrue pe G.env (eval pe G.env)) P nE s:=
 wpAny_mono (i5 G O n e pe m H Q1 hm h fm cs s hA hL) (λx y z=>by induction z with|Rx h1 cs' H' av h2 h3 h4 h5=>exact next cs' _ H' _ h1 h2 (hL.keep h3) h3 ((show av=_ from h4)▸h5)) λx y z=>z
noncomputable def cls:PySem.Expr->Bool
 |.Starred _ _=>false
 |.Slice _ _ _ _=>false
 |.Set _ _ _=>false
 |_=>true
theorem RH (h:MW pe=true):Internal.cls pe=true:=by cases pe<;>first|rfl|exact h
theorem ME.cls (h:ME n sc e pe):cls pe=true:=by
 cases n with
 |zero=>exact h.elim
 |succ n=>
  replace h:yQ (ME n) sc e pe:=h;induction h with
  |val h1 h2 h=>exact RH h2
  |lc h=>induction h<;>rfl
  |_=>rfl
theorem IM (h:Internal.cls pe=true):starEach (pe::rest) env=(false,eval pe env)::starEach rest env:=by
 cases pe<;>first|rfl|exact Bool.noConfusion h
theorem notStar (h:ME n sc e pe):starEach (pe::rest) env=(false,eval pe env)::starEach rest env:=IM h.cls
theorem AO (bp:cE Γ k r)(O:G.Ok k)(hm:bZ (ME n G.sc) es ps):∀{Q1:LP}{P:List Value->Shared->Prop}{cs:List Cell}{s:Shared}{H:Hp},nH r es m H Q1->At G fm cs s H->aw G fm cs m->
  (∀cs' s' H' cM vs,cO s s'->At G fm cs' s' H'->aw G fm cs' m->dJ cs cs'->dK cM vs->vs.length=ps.length->Q1 cM H'->P vs s')->wG G (spliced (backTo pos (starEach ps G.env))) P nE s:=by
 induction hm with
 |nil=>intro Q1 P cs s H h hA hL next;exact spliced_none (next _ _ _ [] [] .refl hA hL .refl trivial rfl h)
 |cons h1 h2 ih=>
  intro Q1 P cs s H h hA hL next;refine spliced_more (eU bp O h1 h hA hL λcs' s' H' av v hS bJ ef hK hv h'=>?_) (notStar h1);exact ih h' bJ ef λIP CL Qq cM vs iP dZ mH mI j0 hl lU=>next _ _ _ (av::cM) _ (hS.trans iP) dZ mH (hK.trans mI) ⟨hv,j0⟩ (congrArg (·+1) hl) lU
theorem Na (KO:gE Γ)(bp:cE Γ k r)(O:G.Ok k)(hv:NA v)(hm:ME n G.sc o v)(h:r.E o m H λv H=>rD H v x λw=>Q w H)
  (hA:At G fm cs s H) (hL:aw G fm cs m):wG G (eval (.Attribute v x.s pos) G.env) (bb G fm cs s VR Q) nE s:=
 Attribute_any_ (eU bp O hm h hA hL λcs' s' H' av cv hS bJ ef hK hv h'=>wpAny_mono (AM KO O bJ hv h') (λx y z=>z.weak hS hK) λx y z=>z) (he:=by induction hv<;>with_unfolding_all rfl)
theorem RI (bp:cE Γ k r)(O:G.Ok k)(xq:MU op po)(h1:ME n G.sc a x)(h2:ME n G.sc b y)
  (h:r.E a m H λv H=>r.E b m H λw H=>wU H op v w Q) (hA:At G fm cs s H) (hL:aw G fm cs m):wG G (eval (.BinOp x po y pos) G.env) (bb G fm cs s VR Q) nE s:=
 wpAny_BinOp (eU bp O h1 h hA hL λZ Z Z Z Z hS bJ ef hK hv h'=>eU bp O h2 h' bJ ef λZ Z Z Z Z iP dZ Z mI hw lU=>
  wpAny_mono (M9 O dZ xq hv hw lU) (λZ Z z=>z.weak (hS.trans iP) (hK.trans mI)) λZ Z x=>x)
theorem sz (h:n<1000):n<=sizeLine:=Vz h
theorem RJ (bp:cE Γ k r)(O:G.Ok k)(hm:bZ (ME n G.sc) es ps)(hz:ps.length<1000)
  (h:nH r es m H λvs H=>alloc H (.tuple vs) Q) (hA:At G fm cs s H) (hL:aw G fm cs m):wG G (eval (.Tuple ps kk pos) G.env) (bb G fm cs s VR Q) nE s:=
 Tuple_ (AO bp O hm h hA hL λZ Z Z Z Z hS bJ Z hK hv hl h'=>wpAny_mono (Gk O bJ hv (sz (hl▸hz)) h') (λZ Z z=>z.weak hS hK) λZ Z x=>x)
theorem RK (bp:cE Γ k r)(O:G.Ok k)(hm:bZ (ME n G.sc) es ps)(hz:ps.length<1000)
  (h:nH r es m H λvs H=>alloc H (.list vs) Q) (hA:At G fm cs s H) (hL:aw G fm cs m):wG G (eval (.List ps pos) G.env) (bb G fm cs s VR Q) nE s:=
 List_ (AO bp O hm h hA hL λZ Z Z Z Z hS bJ Z hK hv hl h'=>wpAny_mono (IL O bJ hv (sz (hl▸hz)) h') (λZ Z z=>z.weak hS hK) λZ Z x=>x)
theorem RM (bp:cE Γ k r)(O:G.Ok k)(hm:ME n G.sc a x)(h:r.E a m H (jJ λb H=>Q (.bool (!b)) H)) (hA:At G fm cs s H) (hL:aw G fm cs m):wG G (eval (.UnaryOp .Not x pos) G.env) (bb G fm cs s VR Q) nE s:=
 wpAny_UnaryOp (eU bp O hm h hA hL λu1 u2 u3 av v hS bJ u4 hK hv h'=>not_of (by
  induction h' with|mk b h'=>
  rw [show v=_ from hv];exact wpAny_truthy_bool (.mk (av:=.bool _) hS bJ hK rfl h')))
theorem RN (bp:cE Γ k r)(O:G.Ok k)(h1:ME n G.sc a x)(h2:ME n G.sc b y)(h:r.E a m H (jJ λt H=>if t then r.E b m H Q else Q (.bool false) H)) (hA:At G fm cs s H) (hL:aw G fm cs m):wG G (eval (.BoolOp .And [x,y] pos) G.env) (bb G fm cs s VR Q) nE s:=
 wpAny_And2 (eU bp O h1 h hA hL λu1 u2 u3 av v hS bJ ef hK hv h'=>by
  cases h' with|mk b h'=>
  rw [show v=_ from hv];refine wpAny_truthy_bool ?_;cases b
  ·exact .mk (av:=.bool _) hS bJ hK rfl h'
  ·exact eU bp O h2 h' bJ ef λu1 u2 u3 av v iP dZ u4 mI hv lU=>.mk (hS.trans iP) dZ (hK.trans mI) hv lU)
theorem VA (bp:cE Γ k r)(O:G.Ok k)(h1:ME n G.sc a x)(h2:ME n G.sc b y)(h:r.E a m H (jJ λt H=>if t then Q (.bool true) H else r.E b m H Q)) (hA:At G fm cs s H) (hL:aw G fm cs m):wG G (eval (.BoolOp .Or [x,y] pos) G.env) (bb G fm cs s VR Q) nE s:=
 wpAny_Or2 (eU bp O h1 h hA hL λu1 u2 u3 av v hS bJ ef hK hv h'=>by
  cases h' with|mk b h'=>
  rw [show v=_ from hv];refine wpAny_truthy_bool ?_;cases b
  ·exact eU bp O h2 h' bJ ef λu1 u2 u3 av v iP dZ u4 mI hv lU=>.mk (hS.trans iP) dZ (hK.trans mI) hv lU
  ·exact .mk (av:=.bool _) hS bJ hK rfl h')
theorem RO (bp:cE Γ k r)(i5:nv Γ k r)(O:G.Ok k)(h0:ME n G.sc c t)(h1:ME n G.sc a x)(h2:ME n G.sc b y)
  (h:r.T c m H λt H=>if t then r.E a m H Q else r.E b m H Q) (hA:At G fm cs s H) (hL:aw G fm cs m):wG G (eval (.IfExp t x y pos) G.env) (bb G fm cs s VR Q) nE s:=
 wpAny_IfExp (Df i5 O h0 h hA hL λZ Z Z b hS bJ ef hK h'=>by
  induction b
  ·exact eU bp O h2 h' bJ ef λZ Z Z av v iP dZ Z mI hv lU=>.mk (hS.trans iP) dZ (hK.trans mI) hv lU
  ·exact eU bp O h1 h' bJ ef λZ Z Z av v iP dZ Z mI hv lU=>.mk (hS.trans iP) dZ (hK.trans mI) hv lU)
theorem RP (i5:nv Γ k r)(O:G.Ok k)(hm:ME n G.sc a x)(h:r.T a m H λt H=>Q (!t) H) (hA:At G fm cs s H) (hL:aw G fm cs m):
  wG G (isTrue (.UnaryOp .Not x pos) G.env wh) (bb G fm cs s HR Q) nE s:=
 wpAny_isTrue_Not (Df i5 O hm h hA hL λZ Z Z b hS bJ Z hK h'=>.mk hS bJ hK rfl h')
theorem RQ (i5:nv Γ k r)(O:G.Ok k)(h1:ME n G.sc a x)(h2:ME n G.sc b y)(h:r.T a m H λt H=>if t then r.T b m H Q else Q false H)
  (hA:At G fm cs s H) (hL:aw G fm cs m):wG G (isTrue (.BoolOp .And [x,y] pos) G.env wh) (bb G fm cs s HR Q) nE s:=
 wpAny_isTrue_BoolOp (wpAny_allTrue_And_cons (Df i5 O h1 h hA hL λZ Z Z b hS bJ ef hK h'=>by
  cases b
  ·exact .mk hS bJ hK rfl h'
  ·refine wpAny_allTrue_And_cons (Df i5 O h2 h' bJ ef λZ Z Z b iP dZ Z mI lU=>?_)
   cases b
   ·exact .mk (hS.trans iP) dZ (hK.trans mI) rfl lU
   ·exact wpAny_allTrue_And_nil (.mk (hS.trans iP) dZ (hK.trans mI) rfl lU)))
theorem VB (i5:nv Γ k r)(O:G.Ok k)(h1:ME n G.sc a x)(h2:ME n G.sc b y)(h:r.T a m H λt H=>if t then Q true H else r.T b m H Q)
  (hA:At G fm cs s H) (hL:aw G fm cs m):wG G (isTrue (.BoolOp .Or [x,y] pos) G.env wh) (bb G fm cs s HR Q) nE s:=
 wpAny_isTrue_BoolOp (wpAny_allTrue_Or_cons (Df i5 O h1 h hA hL λZ Z Z b hS bJ ef hK h'=>by
  cases b
  ·refine wpAny_allTrue_Or_cons (Df i5 O h2 h' bJ ef λZ Z Z b iP dZ Z mI lU=>?_)
   cases b
   ·exact wpAny_allTrue_Or_nil (.mk (hS.trans iP) dZ (hK.trans mI) rfl lU)
   ·exact .mk (hS.trans iP) dZ (hK.trans mI) rfl lU
  ·exact .mk hS bJ hK rfl h'))
theorem AQ (bp:cE Γ k r)(O:G.Ok k)(hm:ME n G.sc e x)(h:r.E e m H (jJ Q))(hA:At G fm cs s H)(hL:aw G fm cs m)(he:isTrue x G.env (eval x G.env)=(do let v <- eval x G.env;standAt x.pos;holding [v] (truthy v))):
  wG G (isTrue x G.env (eval x G.env)) (bb G fm cs s HR Q) nE s:=
 isTrue_plain (eU bp O hm h hA hL λu1 u2 u3 av v hS bJ u4 hK hv h'=>by
  induction h' with|mk b h'=>
  rw [show v=_ from hv];exact wpAny_truthy_bool (.mk hS bJ hK rfl h')) he
end
section
variable {G:Gx Γ}
noncomputable def kN:V->Dat
 |.int i=>.int i
 |.str n=>.str n.s
 |_=>.none
noncomputable def jr:DM->Dat
 |.v x=>kN x
 |.t xs=>.tuple (xs.map kN)
def IQ:DM->Prop
 |.v x=>gM x=true
 |.t xs=>xs.all gM=true
theorem o5 {P:V->Prop}(h:gM v=true)(hi:∀i,P (.int i)) (hs:∀n,P (.str n)):P v:=
 V.casesOn (motive:=λv=>gM v=true->P v) v qS (λZ=>qS) (λi Z=>hi i) (λn Z=>hs n) (λZ=>qS) h
theorem all_cons (h:(x::xs).all gM=true):gM x=true/\xs.all gM=true:=Bool.and_eq_true_iff.mp h
theorem AR (lS:∀a b:Nm,a.s=b.s->a=b) {v w:V} (hv:gM v=true) (hw:gM w=true):kN v=kN w->v=w:=
 o5 (P:=λv=>kN v=kN w->v=w) hv (λi=>o5 (P:=λw=>kN (.int i)=kN w->V.int i=w) hw (λj h=>congrArg V.int (by injection h)) (λn h=>by injection h))
  (λi=>o5 (P:=λw=>kN (.str i)=kN w->V.str i=w) hw (λj h=>by injection h) (λn h=>congrArg V.str (lS _ _ (by injection h))))
theorem map_inj (lS:∀a b:Nm,a.s=b.s->a=b):∀{ys:List V},xs.all gM=true->ys.all gM=true->xs.map kN=ys.map kN->xs=ys:=by
 induction xs with
 |nil=>exact λ{ys} Z Z h=>(List.map_eq_nil_iff.mp h.symm).symm
 |cons x xs ih=>
  intro ys hx hy h;induction ys using List.casesOn with
  |nil=>exact List.map_eq_nil_iff.mp h
  |cons y ys=>exact (AR lS (all_cons hx).1 (all_cons hy).1 (List.cons.inj h).1)▸(ih (all_cons hx).2 (all_cons hy).2 (List.cons.inj h).2)▸rfl
theorem Qr (hv:gM v=true):kN v≠.tuple ds:=o5 (P:=λv=>kN v≠.tuple ds) hv (λi h=>by injection h) (λn h=>by injection h)
theorem IS (lS:∀a b:Nm,a.s=b.s->a=b) (hd:IQ d) (he:IQ e) (h:jr d=jr e):d=e:=by
 induction d with
 |v x=>induction e with
  |v y=>exact congrArg DM.v (AR lS hd he h)
  |t ys=>exact (Qr hd h).elim
 |t xs=>induction e with
  |v y=>exact (Qr he h.symm).elim
  |t ys=>exact congrArg DM.t (map_inj lS hd he (by injection h))
theorem yT (hf:gM v=true):VR v c->DatIn news c (kN v):=
 o5 (P:=λv=>VR v c->DatIn news c (kN v)) hf (λi h=>h.elim λt e=>e▸.int _ _) (λn h=>h.elim λt e=>e▸.str _ _)
theorem IT:∀{cs:List Value},xs.all gM=true->dK xs cs->DatAll news cs (xs.map kN):=by
 induction xs with
 |nil=>exact λZ h=>jg (P:=λcs=>DatAll news cs []) h .nil
 |cons x xs ih=>exact λhf h=>eO (P:=λcs=>DatAll news cs (kN x::xs.map kN)) h λc cs h1 h2=>.cons (yT (all_cons hf).1 h1) (ih (all_cons hf).2 h2)
theorem AS (hA:At G fm cs s H)(hd:Dm H v d):VR v c->IQ d/\DatIn (nw cs) c (jr d):=by
 induction hd with
 |int i=>exact λh=>⟨rfl,yT rfl h⟩
 |str n=>exact λh=>⟨rfl,yT rfl h⟩
 |tup a xs hx hf=>
  intro h;refine (hA.tuple hx) _ λvs n g1 r1 hm=>?_;exact ⟨hf,(show c=_ from h)▸.tuple (vs:=vs.toList) (n:=n) (bO hm) (IT hf r1)⟩
theorem RR (hA:At G fm cs s H)(hd:bZ (Dm H) vs ds):∀{cvs:List Value},dK vs cvs->(∀d∈ds,IQ d)/\DatAll (nw cs) cvs (ds.map jr):=by
 induction hd with
 |nil=>exact λh=>⟨(λZ hz=>absurd hz List.not_mem_nil),jg (P:=λcs'=>DatAll (nw cs) cs' []) h .nil⟩
 |@cons v d vs ds h1 Z ih=>exact λh=>eO (P:=λcs'=>(∀e∈d::ds,IQ e)/\DatAll (nw cs) cs' (jr d::ds.map jr)) h λc cs' r1 r2=>⟨λx hx=>(List.mem_cons.mp hx).elim (λe=>e▸(AS hA h1 r1).1) ((ih r2).1 x),.cons (AS hA h1 r1).2 (ih r2).2⟩
def ib.ZF (Z:Prop):Prop:=∀(ok:∀n:Nm,PyData.strOk n.s=true),Z
def ib:=∀Z:Prop,ib.ZF Z->Z
theorem ib.mk:ib.ZF (ib):=λok _ Z=>Z ok
def ib.ok (Z:ib):=Z _ λok=>ok
theorem AU (T:ib){x:V}(hx:gM x=true)(j:Nat):kqdOk j (kN x)=true:=
 o5 (P:=λx=>kqdOk j (kN x)=true) hx (λi=>Nat.casesOn j rfl (λZ=>rfl)) (λn=>Nat.casesOn j (T.ok _) (λZ=>T.ok _))
theorem kW (T:ib)(h:IQ d):kqdOk 8 (jr d)=true:=by
 induction d with
 |v x=>exact AU T h _
 |t xs=>
  refine (?_:(xs.map kN).all (kqdOk 7)=true);rw [List.all_map];exact List.all_eq_true.mpr λx hx=>AU T (List.all_eq_true.mp h x hx) _
theorem IU (T:ib)(lS:∀a b:Nm,a.s=b.s->a=b) (hd:IQ d) (he:IQ e):PyData.eqv (kqdP (jr d)) (kqdP (jr e))=decide (d=e):=by
 have q:=kqd_eqv 8 (jr d) (jr e) 8 (kW T hd) (kW T he);by_cases h:d=e
 ·rw [decide_eq_true h];exact q.mpr (by rw [h])
 ·rw [decide_eq_false h];exact Bool.eq_false_iff.mpr λx=>h (IS lS hd he (q.mp x))
theorem o6 (T:ib)(h:IQ d):SeqAt.shaped (kqdP (jr d))=true:=by
 have l:=kqd_lay 8 _ (kW T h);unfold SeqAt.shaped;simp only [l.1,Bool.true_and];exact decide_eq_true (Nat.le_trans l.2 (by decide))
theorem mJ (O:G.Ok k):G.A.units+64<cLine:=by have:=O.units;omega
theorem lV:∀{cs:List Value},dK (is.map .int) cs->IntsAre cs is:=by
 induction is with
 |nil=>exact λh=>jg (P:=λcs=>IntsAre cs []) h .nil
 |cons i is ih=>exact λh=>eO (P:=λcs=>IntsAre cs (i::is)) h λc cs h1 h2=>h1.elim λt e=>e▸.cons i t (ih h2)
theorem Ew (h:dK [.ref c] l):l=[.ref c]:=
 eO (P:=λl=>l=[.ref c]) h λd cs h1 h2=>jg (P:=λcs=>d::cs=[.ref c]) h2 (congrArg (λd=>[d]) (show d=.ref c from h1))
def xr.ZF (s:Shared)(a:Nat)(xs:List V)(Z:Prop):Prop:=∀(l:List Value)(h:s.heap.IsList a l.toArray)(r:dK xs l),Z
def xr (s a xs):=∀Z:Prop,xr.ZF s a xs Z->Z
theorem xr.mk:xr.ZF s a xs (xr s a xs):=λl h r _ Z=>Z l h r
theorem At.isList (hA:At G fm cs s H)(h:H a=some (.list xs)):xr s a xs:=by
 refine (hA.list h) _ λvs n g1 r1 m1=>?_;exact (.mk vs.toList ⟨_,g1,rfl,n,by simp⟩ r1)
theorem Ex (T:ib)(KO:gE Γ)(O:G.Ok k)(hA:At G fm cs s H)(hv:VR v cv)(hw:VR w cw)(h:Qj H v w b):
  (P (.bool b) s->wG G (compareOp .Eq cv cw) P nE s)/\(P (.bool (!b)) s->wG G (compareOp .NotEq cv cw) P nE s):=by
 induction h with
 |dm v w d e h1 h2=>
  refine cX (AS hA h1 hv) λo1 d1=>cX (AS hA h2 hw) λo2 d2=>?_;obtain ⟨as,ra⟩:=kqd_in hA.N 8 d1 (kW T o1);obtain ⟨bs,rb⟩:=kqd_in hA.N 8 d2 (kW T o2);exact (IU T KO.inj o1 o2)▸⟨eq_dataH ra rb (o6 T o1) (o6 T o2) (mJ O),ne_dataH ra rb (o6 T o1) (o6 T o2) (mJ O)⟩
 |il a b is js hx hy=>
  refine (show cv=_ from hv)▸(show cw=_ from hw)▸?_;refine (hA.isList hx) _ λl1 i1 r1=>?_;refine (hA.isList hy) _ λl2 i2 r2=>?_;exact ⟨eq_intsK i1 (lV r1) i2 (lV r2) (mJ O),ne_intsK i1 (lV r1) i2 (lV r2) (mJ O)⟩
theorem RS (T:ib)(KO:gE Γ)(O:G.Ok k)(hA:At G fm cs s H)(hv:VR v cv)(hw:VR w cw)(h:HP H v w b)(hP:P (.bool b) s):
  wG G (compareOp .Eq cv cw) P nE s:=by
 induction h with
 |d v w b h=>exact (Ex T KO O hA hv hw h).1 hP
 |one a b c hx hy=>
  refine (show cv=_ from hv)▸(show cw=_ from hw)▸?_;refine (hA.isList hx) _ λl1 i1 r1=>?_;refine (hA.isList hy) _ λl2 i2 r2=>?_;exact SeqAt.eq_listAt (e:=λZ=>true) (Ew r1▸i1) (Ew r2▸i2) rfl (by have:=mJ O;omega) (λj h1 h2=>by
   have z1:j=0:=Nat.lt_one_iff.mp h1;subst z1;exact SeqAt.EqAt.same _) (show P (.bool ((List.range (Array.size #[Value.ref c])).all λZ=>true)) s from hP)
 |len a b xs ys hx hy hl=>
  refine (show cv=_ from hv)▸(show cw=_ from hw)▸?_;refine (hA.isList hx) _ λl1 i1 r1=>?_;refine (hA.isList hy) _ λl2 i2 r2=>?_;exact SeqAt.eq_list_lengthsAt i1 i2 (bne_iff_ne.mpr λe=>hl (r1.length.trans (e.trans r2.length.symm))) (by have:=mJ O;omega) hP
end
section
variable {G:Gx Γ}
theorem Ey (hA:At G fm cs s H)(h:H a=some (.inst c f)):∃c dx,s.heap.get? a=some (instObj c dx):=by
 refine (hA.R.rep _ _ h) _ λdx es n h1 _ _ _ _=>?_;exact ⟨_,dx,hA.N.get (bO h1)⟩
theorem IV (hv:VR v cv)(h:Nat.beq v.ctorIdx 0=false){P:Value->Prop}(k:∀c,PySem.plainIs c .none=true->PySem.plainIs .none c=true->(c==Value.none)=false->(Value.none==c)=false->P c):P cv:=by
 revert hv h
 exact V.casesOn (motive:=λv=>VR v cv->Nat.beq v.ctorIdx 0=false->P cv) v (λZ h=>Bool.noConfusion h) (λb h Z=>(show cv=_ from h)▸k _ rfl rfl rfl rfl) (λi h Z=>h.elim λt e=>e▸k _ rfl rfl rfl rfl)
  (λn h Z=>h.elim λt e=>e▸k _ rfl rfl rfl rfl) (λb h Z=>(show cv=_ from h)▸k _ rfl rfl rfl rfl)
theorem uV (hA:At G fm cs s H)(hv:VR v cv)(hw:VR w cw)(h:F8 H v w b)(hP:P b s):
  wG G (isSame cv cw) P nE s:=by
 induction h with
 |nn=>rw [show cv=_ from hv,show cw=_ from hw];exact wpAny_isSame_plain rfl hP
 |xn v h=>exact (show cw=_ from hw)▸IV (P:=λcv=>wG G (isSame cv .none) P nE s) hv h λc h1 Z h2 Z=>wpAny_isSame_plain h1 (h2▸hP)
 |nx w h=>exact (show cv=_ from hv)▸IV (P:=λcw=>wG G (isSame .none cw) P nE s) hw h λc Z h1 Z h2=>wpAny_isSame_plain h1 (h2▸hP)
 |ref a b' c c' f f' i1 i2=>
  refine (show cv=_ from hv)▸(show cw=_ from hw)▸?_;refine tF (Ey hA i1) λc1 d1 g1=>tF (Ey hA i2) λc2 d2 g2=>?_;by_cases e:a=b'
  ·exact e▸wpAny_isSame_ref_self (beq_self_eq_true a▸e▸hP)
  ·exact wpAny_isSame_ref_other e g1 g2 (by intro q;injection q) (beq_eq_false_iff_ne.mpr e▸hP)
theorem RT (T:ib)(lS:∀a b:Nm,a.s=b.s->a=b) (hd:IQ d) {ds:List DM}:(∀e∈ds,IQ e)->((kqdPs (ds.map jr)).any λy=>PyData.eqv y (kqdP (jr d)))=decide (d∈ds):=by
 induction ds with
 |nil=>exact λZ=>(decide_eq_false List.not_mem_nil).symm
 |cons e ds ih=>
  intro h;refine (?_:(PyData.eqv (kqdP (jr e)) (kqdP (jr d))||(kqdPs (ds.map jr)).any λy=>PyData.eqv y (kqdP (jr d)))=_);rw [ih λx hx=>h x (.tail _ hx),IU T lS (h e (.head _)) hd,<- Bool.decide_or];exact decide_eq_decide.mpr ⟨λx=>List.mem_cons.mpr (x.imp_left Eq.symm),λx=>(List.mem_cons.mp x).imp_left Eq.symm⟩
theorem IW (T:ib)(KO:gE Γ)(O:G.Ok k)(hA:At G fm cs s H)(hv:VR v cv)(hw:VR (.ref a) cw)(hl:H a=some (.list xs)\/H a=some (.tuple xs))
  (h1:Dm H v d)(h2:bZ (Dm H) xs ds):(P (.bool (decide (d∈ds))) s->wG G (compareOp .In cv cw) P nE s)/\(P (.bool (!decide (d∈ds))) s->wG G (compareOp .NotIn cv cw) P nE s):=by
 refine (show cw=_ from hw)▸?_;refine cX (AS hA h1 hv) λo1 d1=>?_;obtain ⟨as,ra⟩:=kqd_in hA.N 8 d1 (kW T o1);have lay:=(kqd_lay 8 _ (kW T o1));have hu:G.A.units+1+min (PyData.depthAll (kqdPs (ds.map jr))) (kqdP (jr d)).depth<cLine:=by
  have:=Nat.min_le_right (PyData.depthAll (kqdPs (ds.map jr))) (kqdP (jr d)).depth;have:=mJ O;have:=lay.2;grind only
 have go:∀{vs:List Value},dK xs vs->(∀e∈ds.map jr,kqdOk 8 e=true)/\DatAll (nw cs) vs (ds.map jr)/\((kqdPs (ds.map jr)).any λy=>PyData.eqv y (kqdP (jr d)))=decide (d∈ds):=λr1=>
  cX (RR hA h2 r1) λo2 d2=>⟨λe he=>aQ (List.mem_map.mp he) λx hx e=>e▸kW T (o2 x hx),d2,RT T KO.inj o1 o2⟩
 induction hl with
 |inl hx=>
  refine (hA.list hx) _ λvs n g1 r1 hm=>?_;refine gC (go r1) λRU d2 e=>?_;obtain ⟨bs,rb⟩:=kqd_all hA.N 8 d2 RU;exact e▸⟨SeqAt.in_list_reads (reads_list_at g1 rfl rfl rb) ra (kqd_layL RU).1 lay.1 hu,SeqAt.notIn_list_reads (reads_list_at g1 rfl rfl rb) ra (kqd_layL RU).1 lay.1 hu⟩
 |inr hx=>
  refine (hA.tuple hx) _ λvs n g1 r1 hm=>?_;refine gC (go r1) λRU d2 e=>?_;obtain ⟨bs,rb⟩:=kqd_all hA.N 8 d2 RU;exact e▸⟨SeqAt.in_tuple_reads (reads_tuple_at g1 rfl rfl rb) ra (kqd_layL RU).1 lay.1 hu,SeqAt.notIn_tuple_reads (reads_tuple_at g1 rfl rfl rb) ra (kqd_layL RU).1 lay.1 hu⟩
theorem uq (T:ib)(KO:gE Γ)(O:G.Ok k)(hA:At G fm cs s H)(xq:Vn op po)(hv:VR v cv)(hw:VR w cw)(h:iz H op v w Q)
  (hP:∀b,Q b->P (.bool b) s):wG G (compareOp po cv cw) P nE s:=by
 subst xq;induction h with
 |eq v w b e h=>exact RS T KO O hA hv hw e (hP _ h)
 |ne v w b e h=>exact (Ex T KO O hA hv hw e).2 (hP _ h)
 |lt i j h=>exact M8 hv hw λt u=>PyProof.Rows.lt_int (hP _ h)
 |le i j h=>exact M8 hv hw λt u=>PyProof.Rows.le_int (hP _ h)
 |gt i j h=>exact M8 hv hw λt u=>PyProof.Rows.gt_int (hP _ h)
 |si v w b e h=>exact wpAny_bind (uV hA hv hw e (wpAny_pure (hP _ h)))
 |sr v w b e h=>exact wpAny_bind (uV hA hv hw e (wpAny_pure (hP _ h)))
 |Rx v a xs d ds hx e1 e2 h=>exact (IW T KO O hA hv hw hx e1 e2).1 (hP _ h)
 |pV v a xs d ds hx e1 e2 h=>exact (IW T KO O hA hv hw hx e1 e2).2 (hP _ h)
end
def iN.ZF (Γ:Cx)(Z:Prop):Prop:=∀(kL:∀x v,uO x=some v->∃cv,nsIn Γ.K mainGlobals x.s=some (some cv)/\VR v cv) (bi:∀id∈(["len","abs","min","list","sorted","set","bytearray","isinstance","range","enumerate"]:List Str),nsIn Γ.K mainGlobals id=some none),Z
def iN (Γ):=∀Z:Prop,iN.ZF Γ Z->Z
theorem iN.mk:iN.ZF Γ (iN Γ):=λkL bi _ Z=>Z kL bi
def iN.kL (Z:iN Γ):=Z _ λkL bi=>kL
def iN.bi (Z:iN Γ):=Z _ λkL bi=>bi
section
variable {G:Gx Γ}
theorem Nb (h:Internal.cls pe=true)(op:CmpOp):behindInMarks op pe=false:=by
 cases pe<;>first|(with_unfolding_all rfl)|injection h
theorem qA (h:ME n sc e pe)(op:CmpOp):behindInMarks op pe=false:=Nb h.cls op
theorem RV (T:ib)(KO:gE Γ)(bp:cE Γ k r)(O:G.Ok k)(xq:Vn op po)(h1:ME n G.sc a x)(h2:ME n G.sc b y)
  (h:r.E a m H λv H=>r.E b m H λw H=>iz H op v w λb=>Q (.bool b) H) (hA:At G fm cs s H) (hL:aw G fm cs m):wG G (eval (.Compare x [po] [y] pos) G.env) (bb G fm cs s VR Q) nE s:=
 wpAny_Compare1 (eU bp O h1 h hA hL λZ Z Z Z Z hS bJ ef hK hv h'=>eU bp O h2 h' bJ ef λZ Z Z Z Z iP dZ Z mI hw lU=>by
  refine wpAny_mono (uq (P:=λv s'=>bb G fm cs s VR Q v s') T KO O dZ xq ?_ hw lU λb hb=>.mk (av:=.bool b) (hS.trans iP) dZ (hK.trans mI) rfl hb) (λZ Z z=>z) λZ Z x=>x;exact hv) (qA h2 _)
theorem RW (T:ib)(KO:gE Γ)(bp:cE Γ k r)(O:G.Ok k)(xq:Vn op po)(h1:ME n G.sc a x)(h2:ME n G.sc b y)
  (h:r.E a m H λv H=>r.E b m H λw H=>iz H op v w λb=>Q b H) (hA:At G fm cs s H) (hL:aw G fm cs m):wG G (isTrue (.Compare x [po] [y] pos) G.env wh) (bb G fm cs s HR Q) nE s:=
 wpAny_isTrue_Compare1 (eU bp O h1 h hA hL λZ Z Z Z Z hS bJ ef hK hv h'=>eU bp O h2 h' bJ ef λZ Z Z Z Z iP dZ Z mI hw lU=>
  uq T KO O dZ xq hv hw lU λb hb=>wpAny_truthy_bool (.mk (hS.trans iP) dZ (hK.trans mI) rfl hb)) (qA h2 _)
theorem Dg (T:ib)(KO:gE Γ)(bp:cE Γ k r)(O:G.Ok k)(h1:ME n G.sc a x)(h2:ME n G.sc b y)(h3:ME n G.sc c z)
  (h:r.E a m H λu H=>r.E b m H λv H=>iz H .le u v λt=>if t then r.E c m H λw H=>iz H .lt v w λb=>Q b H else Q false H) (hA:At G fm cs s H) (hL:aw G fm cs m):
  wG G (isTrue (.Compare x [.LtE,.Lt] [y,z] pos) G.env wh) (bb G fm cs s HR Q) nE s:=by
 refine isTrue_chain (eU bp O h1 h hA hL λZ Z Z Z Z hS bJ ef hK hv h'=>test_link ?_) ?_
 ·refine eU bp O h2 h' bJ ef λZ Z Z Z Z iP dZ mH mI hw lU=>?_
  refine uq T KO O dZ (op:=.le) (po:=.LtE) rfl hv hw lU λb hb=>wpAny_truthy_bool ?_;induction b
  ·exact .mk (hS.trans iP) dZ (hK.trans mI) rfl hb
  ·refine test_last (eU bp O h3 hb dZ mH λZ Z Z Z Z Ct tK Nc VC hw3 h4=>?_)
   exact uq T KO O tK (op:=.lt) (po:=.Lt) rfl hw hw3 h4 λb hb=>wpAny_truthy_bool (.mk ((hS.trans iP).trans Ct) tK ((hK.trans mI).trans VC) rfl hb)
 ·exact qA h3 .Lt
theorem RX (h:Q (.int i) H)(hA:At G fm cs s H):wG G (eval (.Constant (.int i) kk pos) G.env) (bb G fm cs s VR Q) nE s:=
 wpAny_Constant_int (.mk (av:=.int i) (.mk rfl rfl rfl) (hA.tok _) .refl ⟨_,rfl⟩ h)
theorem RY (h:Q (.str x) H)(hA:At G fm cs s H):wG G (eval (.Constant (.str x.s) kk pos) G.env) (bb G fm cs s VR Q) nE s:=
 wpAny_Constant_str (.mk (av:=.str x) (.mk rfl rfl rfl) (hA.tok _) .refl ⟨_,rfl⟩ h)
theorem Nd (h:Q .none H)(hA:At G fm cs s H):wG G (eval (.Constant .none kk pos) G.env) (bb G fm cs s VR Q) nE s:=
 PySem.wpAny_Constant_none (.mk (av:=.none) .refl hA .refl rfl h)
theorem Ez (h:Q (.bool b) H)(hA:At G fm cs s H):wG G (eval (.Constant (.bool b) kk pos) G.env) (bb G fm cs s VR Q) nE s:=
 PySem.wpAny_Constant_bool (.mk (av:=.bool b) .refl hA .refl rfl h)
theorem RZ (GO:iN Γ)(O:G.Ok k)(hm:cq G.sc x.s=true)(hd:yP x=false)(hg:uO x=some v)(h:Q v H)(hA:At G fm cs s H):
  wG G (eval (.Name x.s pos) G.env) (bb G fm cs s VR Q) nE s:=by
 refine aQ (GO.kL _ _ hg) λcv h1 h2=>?_;exact oY O hm hd h1 hA (.mk .refl hA .refl h2 h)
theorem Gl (h:Internal.cls pe=true)(o i:Value):subscripted pe false o i=operate [o,i] (getItem o i):=by
 cases pe<;>first|(with_unfolding_all rfl)|injection h
theorem yU (h:ME n sc e pe)(o i:Value):subscripted pe false o i=operate [o,i] (getItem o i):=Gl h.cls o i
def Gn.ZF (s:Shared)(a:Nat)(xs:List V)(Z:Prop):Prop:=∀(l:List Value)(h:IsTup s.heap a l.toArray)(r:dK xs l),Z
def Gn (s a xs):=∀Z:Prop,Gn.ZF s a xs Z->Z
theorem Gn.mk:Gn.ZF s a xs (Gn s a xs):=λl h r _ Z=>Z l h r
theorem At.isTup (hA:At G fm cs s H)(h:H a=some (.tuple xs)):Gn s a xs:=by
 refine (hA.tuple h) _ λq2 n g1 r1 m1=>?_;obtain ⟨l⟩:=q2;exact (.mk l ⟨_,g1,rfl,n,rfl⟩ r1)
theorem yV (h0:0<=i)(h:i.toNat<n):seqIndex? i n=some i.toNat:=by
 unfold seqIndex?;have e3:¬(i<0):=by omega
 have e4:i<(n:Int):=by omega
 simp [e3,e4,h0]
theorem Nf (hA:At G fm cs s H)(hv:VR v cv)(hw:VR w cw)(h:Dc H v w Q)(hs:subscripted sl false cv cw=operate [cv,cw] (getItem cv cw))
  (hP:∀x cx,VR x cx->Q x->P cx s):wG G (subscriptTail va sl cv cw) P nE s:=by
 induction h with
 |list a i xs x hx h0 h1 hi h=>
  rw [show cv=_ from hv] at hs ⊢;obtain ⟨t,rfl⟩:=hw;refine (hA.isList hx) _ λl i1 r1=>?_;obtain ⟨c,e1,e2⟩:=r1.get hi;exact tail_any i1.typeIs slot_list_getitem.lookup (wpAny_getItem_list i1 h0 (by omega) (by simpa using e1) (hP _ _ e2 h)) hs
 |tuple a i xs x hx h0 h1 hi h=>
  rw [show cv=_ from hv] at hs ⊢;obtain ⟨t,rfl⟩:=hw;refine (hA.isTup hx) _ λl i1 r1=>?_;obtain ⟨c,e1,e2⟩:=r1.get hi;exact item_tupleT i1 (by omega) (by omega) (j:=i.toNat) (yV h0 (List.getElem?_eq_some_iff.mp e1).1) e1 (hP _ _ e2 h) hs
theorem Sa (bp:cE Γ k r)(O:G.Ok k)(h1:ME n G.sc a x)(h2:ME n G.sc i y)(h:r.E a m H λv H=>r.E i m H λw H=>Dc H v w λx=>Q x H)
  (hA:At G fm cs s H) (hL:aw G fm cs m):wG G (eval (.Subscript x y pos) G.env) (bb G fm cs s VR Q) nE s:=
 Subscript_ (eU bp O h1 h hA hL λZ Z Z Z Z hS bJ ef hK hv h'=>eU bp O h2 h' bJ ef λZ Z Z Z Z iP dZ Z mI hw lU=>
  Nf dZ hv hw lU (yU h2 _ _) λZ Z hx hq=>.mk (hS.trans iP) dZ (hK.trans mI) hx hq)
end
section
variable {G:Gx Γ}
theorem uW (O:G.Ok k)(hA:At G fm cs s H)(ne:∀c∈cs,c.2.1≠D) (hf:G.h₀.get? D=none):H D=none:=by
 induction q:H D with
 |none=>rfl
 |some o=>
  exfalso;have h:=hA.R.rep _ _ q;have z:∀ow ob,(ow,D,ob)∈cs->False:=λow ob hm=>ne _ hm rfl;induction o with
  |inst c fs=>refine h _ λ_ _ _ h1 _ _ _ _=>?_;exact z _ _ h1
  |list xs=>refine h _ λ_ _ h1 _=>?_;exact z _ _ h1
  |tuple xs=>refine h _ λ_ _ h1 _=>?_;exact z _ _ h1
  |dict ds=>refine h _ λ_ _ h1 _ _ _=>?_;exact z _ _ h1
  |bytes=>refine h _ λ_ h1=>?_;exact z _ _ h1
  |ro xs=>
   refine h _ λvs h1 _=>?_;refine aQ h1 λo ho Z=>?_;rw [O.ro _ _ ho] at hf;injection hf
theorem At.uX (O:G.Ok k)(hA:At G fm cs s H)(F':Fr G.h₀ G.L s'.heap fm)(N':News G.h₀ G.L s'.heap ((D,ob)::nw cs))(ne:∀c∈cs,c.2.1≠D)
  (hq:Internal.alloc H o Q) (ho:i4 Γ.X ((some D,D,ob)::cs) D o) (hs:cO s s'):bb G fm cs s VR Q (.ref D) s':=
 ⟨hs,(some D,D,ob)::cs,_,.ref D,(.mk F' N' (hA.R.new ne ho)),λc hc Z=>.tail _ hc,rfl,hq _ (uW O hA ne (N'.fresh (.head _)))⟩
theorem ne_of_lt (h:∀q∈nw cs,q.1<D):∀c∈cs,c.2.1≠D:=λZ hc e=>absurd (h _ (bO hc)) (by rw [e];exact Nat.lt_irrefl _)
theorem rF (hA:At G fm cs s H):∀c∈cs,c.2.1≠s.heap.objs.size+1:=λc hc e=>by have q:=Heap.lt_size (hA.N.get (bO hc));rw [e] at q;exact absurd (Nat.lt_of_succ_lt q) (Nat.lt_irrefl _)
theorem j1 (h:bZ (ME n sc) es ps):(backTo pos (starEach ps env)).any (·.1)=false:=by
 induction h with
 |nil=>rfl
 |cons h1 h2 ih=>
  rw [notStar h1];exact ih
noncomputable abbrev Zm:List Str:=["len","abs","min","list","sorted","set","bytearray","isinstance","range","enumerate"]
theorem AV (GO:iN Γ)(bp:cE Γ k r)(O:G.Ok k){id:Str}(Rg:(∃b,bv=.builtin b)\/∃b,bv=.type b) (Qg:id∈Zm) (hd:(id==("__debug__":Str))=false) (hn:id≠"__name__")
  (hb:bootBuiltins id=some bv) {e:Internal.E} {es:List Internal.E} {p0 q:Pos} {p:PySem.Expr} {ps:List PySem.Expr} {Q1:LP} {P:SP} (hg:cq G.sc id=true) (h1:ME n G.sc e p) (h2:bZ (ME n G.sc) es ps) (h:nH r (e::es) m H Q1) (hA:At G fm cs s H) (hL:aw G fm cs m)
  (next:∀cs' s' H' cM vs,cO s s'->At G fm cs' s' H'->aw G fm cs' m->dJ cs cs'->dK cM vs->Q1 cM H'->wG G (call bv vs) P nE s'):
  wG G (eval (.Call (.Name id p0) (p::ps) [] q) G.env) P nE s:=by
 refine PyProof.Rows.Call_ (oZ O hg hd (GO.bi _ Qg) hb hn hA ?_);rcases Rg with ⟨b,rfl⟩|⟨b,rfl⟩
 ·exact PyProof.Rows.callWith_builtin1 (AO bp O (.cons h1 h2) h hA hL λcs' s' H' cM vs hS bJ ef hK hv hl h'=>next _ _ _ cM vs hS bJ ef hK hv h') (notStar h1) (j1 h2)
 ·exact PyProof.Rows.callWith_type1 (AO bp O (.cons h1 h2) h hA hL λcs' s' H' cM vs hS bJ ef hK hv hl h'=>next _ _ _ cM vs hS bJ ef hK hv h') (notStar h1) (j1 h2)
def Zn (Q:VP)(l:List V)(H:Hp):Prop:=match l with
 |[v]=>Q v H
 |_=>False
def Zo (Q:V->VP)(l:List V)(H:Hp):Prop:=match l with
 |[v,w]=>Q v w H
 |_=>False
theorem dK.one (hv:dK cM vs)(h:Zn Q cM H):∃av v,vs=[v]/\VR av v/\Q av H:=by
 induction cM using List.casesOn with
 |nil=>exact h.elim
 |cons a as=>induction as with
  |cons _ _=>exact h.elim
  |nil=>induction vs using List.casesOn with
   |nil=>exact hv.elim
   |cons v vs=>induction vs with
    |nil=>exact ⟨a,v,rfl,hv.1,h⟩
    |cons _ _=>exact hv.2.elim
theorem dK.two (hv:dK cM vs)(h:Zo Q cM H):∃av bv v w,vs=[v,w]/\VR av v/\VR bv w/\Q av bv H:=by
 induction cM using List.casesOn with
 |nil=>exact h.elim
 |cons a as=>induction as using List.casesOn with
  |nil=>exact h.elim
  |cons b as=>induction as with
   |cons _ _=>exact h.elim
   |nil=>induction vs using List.casesOn with
    |nil=>exact hv.elim
    |cons v vs=>induction vs using List.casesOn with
     |nil=>exact hv.2.elim
     |cons w vs=>induction vs with
      |nil=>exact ⟨a,b,v,w,rfl,hv.1,hv.2.1,h⟩
      |cons _ _=>exact hv.2.2.elim
theorem kj (GO:iN Γ)(bp:cE Γ k r)(O:G.Ok k){id:Str}(Rg:(∃b,bv=.builtin b)\/∃b,bv=.type b) (Qg:id∈Zm) (hd:(id==("__debug__":Str))=false) (hn:id≠"__name__")
  (hb:bootBuiltins id=some bv) {e:Internal.E} {p0 q:Pos} {x:PySem.Expr} {Q1:VP} {P:SP} (hg:cq G.sc id=true) (h1:ME n G.sc e x) (h:r.E e m H Q1) (hA:At G fm cs s H) (hL:aw G fm cs m)
  (next:∀cs' s' H' av v,cO s s'->At G fm cs' s' H'->aw G fm cs' m->dJ cs cs'->VR av v->Q1 av H'->wG G (call bv [v]) P nE s'):
  wG G (eval (.Call (.Name id p0) [x] [] q) G.env) P nE s:=by
 refine AV GO bp O Rg Qg hd hn hb hg h1 .nil (Q1:=Zn Q1) h hA hL λcs' s' H' cM vs hS bJ ef hK hv h'=>?_;refine nK (dK.one hv h') λav v dp h1 h2=>?_;subst dp;exact next _ _ _ av v hS bJ ef hK h1 h2
theorem AW (GO:iN Γ)(bp:cE Γ k r)(O:G.Ok k){id:Str}(Rg:(∃b,bv=.builtin b)\/∃b,bv=.type b) (Qg:id∈Zm) (hd:(id==("__debug__":Str))=false) (hn:id≠"__name__")
  (hb:bootBuiltins id=some bv) {a b:Internal.E} {p0 q:Pos} {x y:PySem.Expr} {Q1:V->VP} {P:SP} (hg:cq G.sc id=true) (h1:ME n G.sc a x) (h2:ME n G.sc b y) (h:r.E a m H λv H=>r.E b m H λw H=>Q1 v w H) (hA:At G fm cs s H) (hL:aw G fm cs m)
  (next:∀cs' s' H' av Yo v w,cO s s'->At G fm cs' s' H'->aw G fm cs' m->dJ cs cs'->VR av v->VR Yo w->Q1 av Yo H'->wG G (call bv [v,w]) P nE s'):
  wG G (eval (.Call (.Name id p0) [x,y] [] q) G.env) P nE s:=by
 refine AV GO bp O Rg Qg hd hn hb hg h1 (.cons h2 .nil) (Q1:=Zo Q1) h hA hL λcs' s' H' cM vs hS bJ ef hK hv h'=>?_;refine uy (dK.two hv h') λav Yo v w dp h1 h2 h3=>?_;subst dp;exact next _ _ _ av Yo v w hS bJ ef hK h1 h2 h3
theorem Sb (GO:iN Γ)(bp:cE Γ k r)(O:G.Ok k)(hg:cq G.sc "len"=true)(h1:ME n G.sc e x)(h:r.E e m H λv H=>F9 H v λn=>Q (.int n) H) (hA:At G fm cs s H) (hL:aw G fm cs m):
  wG G (eval (.Call (.Name "len" p0) [x] [] q) G.env) (bb G fm cs s VR Q) nE s:=by
 refine kj GO bp O (.inl ⟨"len",rfl⟩) (by decide) (by decide) (by decide) (by decide+kernel) hg h1 h hA hL λcs' s' H' av v hS bJ ef hK hv h'=>?_;induction h' with
 |list a xs hx hz h'=>
  rw [show v=_ from hv];refine (bJ.isList hx) _ λl i1 r1=>?_;have e1:=r1.length;refine call_len_list i1 (by simp only [List.size_toArray];omega) ?_;exact .mk (av:=.int xs.length) (hS.trans (.mk rfl rfl rfl)) ((bJ.tok _)) hK ⟨_,by simp [e1];rfl⟩ h'
 |ro a xs hx hz h'=>
  rw [show v=_ from hv];refine (bJ.R.rep _ _ hx) _ λl i1 r1=>?_;have e1:=IntsAre.length r1;have i2:s'.heap.IsList a l.toArray:=by obtain ⟨o,ho,z⟩:=i1;exact ⟨o,bJ.F.keep _ _ (O.ro _ _ ho),z⟩
  refine call_len_list i2 (by simp only [List.size_toArray];omega) ?_;exact .mk (av:=.int xs.length) (hS.trans (.mk rfl rfl rfl)) ((bJ.tok _)) hK ⟨_,by simp [e1];rfl⟩ h'
theorem Sd (GO:iN Γ)(bp:cE Γ k r)(O:G.Ok k)(hg:cq G.sc "abs"=true)(h1:ME n G.sc e x)(h:r.E e m H λv H=>IB H Q v) (hA:At G fm cs s H) (hL:aw G fm cs m):
  wG G (eval (.Call (.Name "abs" p0) [x] [] q) G.env) (bb G fm cs s VR Q) nE s:=by
 refine kj GO bp O (.inl ⟨"abs",rfl⟩) (by decide) (by decide) (by decide) (by decide+kernel) hg h1 h hA hL λcs' s' H' av v hS bJ ef hK hv h'=>?_;induction h' with|mk i h'=>
 obtain ⟨t,rfl⟩:=hv;refine call_abs_int λu tk=>.mk (av:=.int i.natAbs) (hS.trans (.mk rfl rfl rfl)) (bJ.tok _) hK ⟨u,?_⟩ h';rw [show (if i<0 then -i else i)=(i.natAbs:Int) by grind only]
theorem Se (GO:iN Γ)(bp:cE Γ k r)(O:G.Ok k)(hg:cq G.sc "min"=true)(h1:ME n G.sc a x)(h2:ME n G.sc b y)(h:r.E a m H λv H=>r.E b m H λw H=>Ga H Q v w) (hA:At G fm cs s H) (hL:aw G fm cs m):
  wG G (eval (.Call (.Name "min" p0) [x,y] [] q) G.env) (bb G fm cs s VR Q) nE s:=by
 refine AW GO bp O (.inl ⟨"min",rfl⟩) (by decide) (by decide) (by decide) (by decide+kernel) hg h1 h2 (Q1:=λv w H=>Ga H Q v w) h hA hL λcs' s' H' av bv v w hS bJ ef hK hv hw h'=>?_;induction h' with|mk i j h'=>
 obtain ⟨t,rfl⟩:=hv;obtain ⟨u,rfl⟩:=hw;exact min_two_N O.hh bJ.F bJ.N λh2 tk F' N'=>.mk (av:=.int (if j<i then j else i)) (hS.trans (.mk rfl rfl rfl)) (.mk F' N' bJ.R) hK ⟨_,rfl⟩ h'
theorem Gp (GO:iN Γ)(bp:cE Γ k r)(O:G.Ok k)(hg:cq G.sc "list"=true)(h1:ME n G.sc e x)(h:r.E e m H λv H=>jI H v λxs=>xs.length<1000/\Internal.alloc H (.list xs) Q) (hA:At G fm cs s H) (hL:aw G fm cs m):
  wG G (eval (.Call (.Name "list" p0) [x] [] q) G.env) (bb G fm cs s VR Q) nE s:=by
 refine kj GO bp O (.inr ⟨"list",rfl⟩) (by decide) (by decide) (by decide) (by decide+kernel) hg h1 h hA hL λcs' s' H' av v hS bJ ef hK hv h'=>?_;induction h' with|mk a xs hx h'=>
 refine (show v=_ from hv)▸?_;refine (bJ.isList hx) _ λl i1 r1=>?_;have e1:=r1.length;refine list_copyK bJ.F bJ.N i1 (λD c h2 F' N' lo=>(bJ.uX (s':={s' with heap:=h2}) O F' N' (ne_of_lt lo) h'.2 (.mk _ c (.head _) r1) (.mk rfl rfl rfl)).weak hS hK) (sz ?_);simp only [List.size_toArray];exact e1▸h'.1
theorem n5 (i:Int):∀l,(cD i l).Perm (i::l):=by
 intro l;induction l with
 |nil=>
  exact .refl _
 |cons j l ih=>
  unfold cD;split
  ·exact .refl _
  ·exact (List.Perm.cons j (ih)).trans (.swap i j l)
theorem lA:∀l,(b8 l).Perm l
 |[]=>.refl _
 |i::l=>(n5 i _).trans (.cons i (lA l))
set_option tactic.hygienic true in
theorem sF (i:Int):∀l,l.Pairwise (·<=·)->(cD i l).Pairwise (·<=·):=by
 intro l;induction l with
 |nil=>
  intro _;simp [cD]
 |cons j l ih=>
  intro h;unfold cD;have h':=List.pairwise_cons.mp h;split
  ·rename_i L6
   exact List.pairwise_cons.mpr ⟨λb hb=>by
    rcases List.mem_cons.mp hb with rfl|hb
    ·exact L6
    ·exact Int.le_trans L6 (h'.1 b hb),h⟩
  ·rename_i L6
   refine List.pairwise_cons.mpr ⟨λb hb=>?_,ih h'.2⟩;rcases List.mem_cons.mp ((n5 i l).mem_iff.mp hb) with rfl|hb
   ·grind only
   ·exact h'.1 b hb
theorem jy:∀l,(b8 l).Pairwise (·<=·)
 |[]=>.nil
 |i::l=>sF i _ (jy l)
theorem tL {Sf Sg:List Int}(p:Sf.Perm Sg)(h₁:Sf.Pairwise (·<=·))(tY:Sg.Pairwise (·<=·)):Sf=Sg:=p.eq_of_pairwise (le:=(·<=·)) (λZ Z Z Z a b=>Int.le_antisymm a b) h₁ tY
theorem uY (h:IntsAre vs is):dK (is.map .int) vs:=by
 induction h with
 |nil=>trivial
 |cons n t hr ih=>exact ⟨⟨t,rfl⟩,ih⟩
theorem Gq (GO:iN Γ)(bp:cE Γ k r)(O:G.Ok k)(hg:cq G.sc "sorted"=true)(h1:ME n G.sc e x)(h:r.E e m H λv H=>jI H v λxs=>Es Q xs H) (hA:At G fm cs s H) (hL:aw G fm cs m):
  wG G (eval (.Call (.Name "sorted" p0) [x] [] q) G.env) (bb G fm cs s VR Q) nE s:=by
 refine kj GO bp O (.inl ⟨"sorted",rfl⟩) (by decide) (by decide) (by decide) (by decide+kernel) hg h1 h hA hL λcs' s' H' av v hS bJ ef hK hv h'=>?_;induction h' with|mk a xs hx h'=>
 refine (show v=_ from hv)▸?_;refine (bJ.isList hx) _ λl i1 r1=>?_;refine h' _ λis hz Zp h'=>?_;refine sorted_N bJ.F bJ.N i1 (lV (Zp▸r1)) (r1.length▸hz) λh2 Ie sf c F' N' hI hp hs=>?_;obtain rfl:=tL (hp.trans (lA is).symm) hs (jy is);exact (bJ.uX (D:=s'.heap.objs.size+1) (s':={s' with heap:=h2}) O F' N' (rF bJ) h' (.mk _ c (.head _) (by simpa using uY hI)) (.mk rfl rfl rfl)).weak hS hK
end
def i6.ZF (Γ:Cx)(Z:Prop):Prop:=∀(glob:∀c,(d5 c||c==.dz)=true->nsIn Γ.K mainGlobals c.s=some (some (.ref (Γ.X.cls c)))) (sG:∀c,d5 c=true->isIn Γ.K (.ref (Γ.X.cls c)) (Γ.X.cls c)=true) (sH:∀c c',(c==.fT||c==.eE||c==.fY)=true->(c'==.fT||c'==.eE||c'==.dz)=true->c≠c'->kin_not Γ.K (Γ.X.cls c) (Γ.X.cls c')=true) (pg:∀c,d5 c=true->plainGet Γ.K (Γ.X.cls c) "__class__"=true) (cls:∀c,d5 c=true->findIn Γ.K (.ref (Γ.X.cls c)) "__class__"=some (some (.builtin "object.__class__"))) (get:specialIn Γ.K (.builtin "object.__class__") "__get__"=some (some (.builtin "getset_descriptor.__get__"))) (takes:takesIn Γ.K (.builtin "object.__class__")=some true) (mro:∀c,d5 c=true->mroIn Γ.K (Γ.X.cls c) (.type "object")=some true),Z
def i6 (Γ):=∀Z:Prop,i6.ZF Γ Z->Z
theorem i6.mk:i6.ZF Γ (i6 Γ):=λglob sG sH pg cls get takes mro _ Z=>Z glob sG sH pg cls get takes mro
def i6.glob (Z:i6 Γ):=Z _ λglob sG sH pg cls get takes mro=>glob
def i6.sG (Z:i6 Γ):=Z _ λglob sG sH pg cls get takes mro=>sG
def i6.sH (Z:i6 Γ):=Z _ λglob sG sH pg cls get takes mro=>sH
def i6.pg (Z:i6 Γ):=Z _ λglob sG sH pg cls get takes mro=>pg
def i6.cls (Z:i6 Γ):=Z _ λglob sG sH pg cls get takes mro=>cls
def i6.get (Z:i6 Γ):=Z _ λglob sG sH pg cls get takes mro=>get
def i6.takes (Z:i6 Γ):=Z _ λglob sG sH pg cls get takes mro=>takes
def i6.mro (Z:i6 Γ):=Z _ λglob sG sH pg cls get takes mro=>mro
section
variable {G:Gx Γ}
theorem Ng (KO:gE Γ)(CO:i6 Γ)(O:G.Ok k)(hA:At G fm cs s H)(hH:H a=some (.inst c fs))(xt:(c==.fT||c==.eE||c==.fY)=true)(Qs:(c'==.fT||c'==.eE||c'==.dz)=true)
  {P:SP}(hP:∀t,P (.bool (c==c')) {s with toks:=t}):wG G (call (.builtin "isinstance") [.ref a,.ref (Γ.X.cls c')]) P nE s:=by
 refine (i4.inst hA (hA.R.rep _ _ hH)) _ λdx es n' I hf hd hi hc hk=>?_;have X:Γ.K.In s.heap:=O.nu.keeps hA.F.keep;by_cases e:c=c'
 ·subst e
  have q:=hP s.toks;rw [beq_self_eq_true] at q;exact isi_call X (λM=>I.type (M:=M)) (CO.sG _ hc) (by intro z;injection z) q
 ·have q:=hP (s.toks+1)
  rw [beq_eq_false_iff_ne.mpr e] at q;exact kin_callC X I (CO.sH _ _ xt Qs e) (CO.pg _ hc) (KO.hd _ hc) (CO.cls _ hc) CO.get CO.takes (CO.mro _ hc) q
theorem xu (O:G.Ok k)(hA:At G fm cs s H){l:List Value}{lo hi st:Option Int}(hl:s.heap.IsList a l.toArray)(pl:IsPart vl lo)(pu:IsPart vu hi)(pk:IsPart vk st)(h0:st≠some 0)
  (hz:l.length<=sizeLine)(hr:dK ys (slicePick l.toArray lo hi st).toList)(hq:Internal.alloc H (.list ys) Q)(hs:subscripted slice false (.ref a) (.ref s.heap.objs.size)=operate ops (getItem (.ref a) (.ref s.heap.objs.size)))(ht:∀r,letTemporaryGo value (.ref a) r=pure ()):
  wG G (subscriptTail value slice (.ref a) (.ref s.heap.objs.size)) (bb G fm cs s VR Q) nE {s with heap:=s.heap.push {cls:=.type "slice",data:=.fields #[vl,vu,vk]}}:=by
 refine slice_list3 hA.F hA.N hl pl pu pk h0 (λh' F' N'=>?_) hs ht (by simpa using hz);exact hA.uX (D:=s.heap.objs.size+1) (s':={s with heap:=h'}) O F' N' (rF hA) hq (.mk _ 0 (.head _) hr) (.mk rfl rfl rfl)
theorem dK.take:∀{cs:List Value}(n:Nat),dK xs cs->dK (xs.take n) (cs.take n):=by
 induction xs with
 |nil=>exact λn h=>jg (P:=λcs=>dK ([].take n) (cs.take n)) h (Nat.casesOn n trivial λZ=>trivial)
 |cons x xs ih=>exact λn h=>eO (P:=λcs=>dK ((x::xs).take n) (cs.take n)) h λc cs h1 h2=>Nat.casesOn n trivial λn=>⟨h1,ih n h2⟩
theorem Nh (bp:cE Γ k r)(O:G.Ok k)(h1:ME n G.sc a (.Name i0 p0))(h2:ME n G.sc i u)(h:r.E a m H λv H=>r.E i m H λw H=>AH H Q v w) (hA:At G fm cs s H) (hL:aw G fm cs m):wG G (eval (.Subscript (.Name i0 p0) (.Slice none (some u) none p) pos) G.env) (bb G fm cs s VR Q) nE s:=by
 refine Subscript_ (eU bp O h1 h hA hL λu1 u2 u3 av v hS bJ ef hK hv h'=>wpAny_Slice ?_);simp only [evalPart_none,evalPart_some];refine wpAny_pure (eU bp O h2 h' bJ ef λu4 s3 H3 bv w iP dZ u5 mI hw lU=>wpAny_pure ?_);induction lU with|mk a' k' xs hx hz qT hk1 hq=>
 rw [show v=_ from hv];obtain ⟨t,rfl⟩:=hw;refine (dZ.R.rep _ _ hx) _ λl i1 r1=>?_;have e1:=IntsAre.length r1;have i2:s3.heap.IsList a' l.toArray:=by obtain ⟨o,ho,z⟩:=i1;exact ⟨o,dZ.F.keep _ _ (O.ro _ _ ho),z⟩
 refine wpAny_mono (xu (ops:=[.ref s3.heap.objs.size,.ref a']) O dZ i2 .none (.int k' t) .none nofun (sz (by omega)) ?_ hq (by with_unfolding_all rfl) (λZ=>rfl)) (λZ Z z=>z.weak (hS.trans iP) (hK.trans mI)) λZ Z x=>x;rw [show k'=((k'.toNat:Nat):Int) by grind only,slicePick_upto',Int.toNat_natCast,List.map_take];exact (uY r1).take _
theorem Si (bp:cE Γ k r)(O:G.Ok k)(h1:ME n G.sc a (.Name i0 p0))(h:r.E a m H λv H=>jI H v λxs=>xs.length<1000/\Internal.alloc H (.list xs.reverse) Q)
  (hA:At G fm cs s H) (hL:aw G fm cs m):wG G (eval (.Subscript (.Name i0 p0) (.Slice none none (some (.UnaryOp .USub (.Constant (.int 1) kk p1) p2)) p) pos) G.env) (bb G fm cs s VR Q) nE s:=by
 refine Subscript_ (eU bp O h1 h hA hL λu1 s2 H2 av v hS bJ ef hK hv h'=>wpAny_Slice ?_);simp only [evalPart_none,evalPart_some];refine wpAny_pure (wpAny_pure (wpAny_UnaryOp (wpAny_Constant_int (PyProof.Rows.neg_int ?_))));induction h' with|mk a' xs hx h'=>
 refine (show v=_ from hv)▸?_;refine (bJ.isList hx) _ λl i2 r1=>?_;have mK:At G fm _ {s2 with toks:=s2.toks+1+1} H2:=bJ.tok _;refine wpAny_mono (xu (s:={s2 with toks:=s2.toks+1+1}) (ops:=[.ref a',.ref s2.heap.objs.size]) O mK i2 .none .none (.int (-1) _) nofun (sz (r1.length▸h'.1)) ?_ h'.2 (by with_unfolding_all rfl) (λZ=>rfl)) (λZ Z z=>z.weak (hS.trans (.mk rfl rfl rfl)) hK) λZ Z x=>x;rw [krv_pick];exact r1.reverse
theorem IX (O:G.Ok k)(h:Internal.alloc H (.dict []) Q)(hA:At G fm cs s H):wG G (eval (.Dict [] [] pos) G.env) (bb G fm cs s VR Q) nE s:=
 newDict_K (prog:=Γ.prog) (w:=Γ.w) hA.F hA.N O.top.nolimit λd h' o F' N' lo hd Z Z di Z=>hA.uX (D:=d) (s':={s with heap:=h'}) O F' N' (ne_of_lt lo) h (.mk o [] (.head _) di hd trivial) (.mk rfl rfl rfl)
end
section
variable {G:Gx Γ}
theorem tM (bp:cE Γ k r)(O:G.Ok k){id:String}(hm:bZ (ME n G.sc) es ps)(h:nH r es m H Q1)(hA:At G fm cs s H)(hL:aw G fm cs m)
  (next:∀cs' s' H' cM vs,cO s s'->At G fm cs' s' H'->aw G fm cs' m->dJ cs cs'->dK cM vs->Q1 cM H'->wG G (call (.builtin id) (first++vs)) P nE s'):
  wG G (callWith pos (.builtin id) first (backTo pos (starEach ps G.env)) []) P nE s:=by
 refine callWith_builtin (j1 hm) ?_;induction hm with
 |nil=>exact evalArgs_nil3 (next _ _ _ [] [] .refl hA hL .refl trivial h)
 |cons h1 h2=>
  have L:=AO (pos:=pos) bp O (.cons h1 h2) h hA hL λcs' s' H' cM vs hS bJ ef hK hv hl h'=>next _ _ _ cM vs hS bJ ef hK hv h';rw [notStar h1] at L ⊢;exact evalArgs_plain L
theorem uZ (CO:i6 Γ)(O:G.Ok k)(hA:At G fm cs s H)(hm:cq G.sc c.s=true)(hd:yP c=false)(hc:(d5 c||c==.dz)=true)(h:P (.ref (Γ.X.cls c)) s):
  wG G (eval (.Name c.s pos) G.env) P nE s:=oY O hm hd (CO.glob _ hc) hA h
theorem Ni (h:II c=true):(d5 c||c==.dz)=true:=by
 unfold II at h;simp only [Bool.or_eq_true,beq_iff_eq] at h;rcases h with (rfl|rfl)|rfl<;>decide+kernel
theorem Sj (GO:iN Γ)(KO:gE Γ)(CO:i6 Γ)(bp:cE Γ k r)(O:G.Ok k)(hg:cq G.sc "isinstance"=true)(Qs:II c=true)(h1:ME n G.sc e x)(h3:cq G.sc c.s=true)(h4:yP c=false)
  (h:r.E e m H (IA c Q))(hA:At G fm cs s H)(hL:aw G fm cs m):wG G (eval (.Call (.Name "isinstance" p) [x,.Name c.s p2] [] q) G.env) (bb G fm cs s VR Q) nE s:=by
 refine PyProof.Rows.Call_ (oZ O hg (by decide) (GO.bi _ (by decide)) (cv:=.builtin "isinstance") (by decide+kernel) (by decide) hA ?_);refine PyProof.Rows.callWith_builtin1 (spliced_more (eU bp O h1 h hA hL λcs' s' H' av v hS bJ ef hK hv h'=>?_) (notStar h1)) (notStar h1) (by rfl);refine spliced_more (uZ CO O bJ h3 h4 (Ni Qs) (spliced_none ?_));induction h' with|mk a c' fs hH hc h'=>
 refine (show v=_ from hv)▸?_;exact Ng KO CO O bJ hH hc Qs λt=>.mk (av:=.bool _) (hS.trans (.mk rfl rfl rfl)) (bJ.tok t) hK rfl h'
def Gr.ZF (X:Px)(H:Hp)(cs:List Cell)(a:Nat)(ob ob':Obj)(o':Internal.O)(Z:Prop):Prop:=∀(cs':List Cell)(U:Upd a ob ob' (nw cs) (nw cs'))(K:dJ cs cs')(R:Rep X cs' (H.upd a o')),Z
def Gr (X H cs a ob ob' o'):=∀Z:Prop,Gr.ZF X H cs a ob ob' o' Z->Z
theorem Gr.mk:Gr.ZF X H cs a ob ob' o' (Gr X H cs a ob ob' o'):=λcs' U K R _ Z=>Z cs' U K R
theorem At.ur (hA:At G fm cs s H)(hm:(some a,a,ob)∈cs)(ho:∀pre post,cs=pre++(some a,a,ob)::post->i4 Γ.X (pre++(some a,a,ob')::post) a o'):Gr Γ.X H cs a ob ob' o':=by
 refine tF (List.append_of_mem hm) λpre post e=>?_;have hR:=hA.R;subst e;exact (.mk _ (Upd.at hR.nd) dJ.set (Rep.set hR (ho pre post rfl)))
theorem UpdF.at (nd:((pre++(ow,x,o)::post).map (·.2.1)).Nodup):UpdF x o (nw (pre++(ow,x,o)::post)) (λo'=>nw (pre++(ow,x,o')::post)):=by
 induction pre with
 |nil=>
  simp only [List.nil_append,List.map_cons,List.nodup_cons] at nd;refine .head λp hp e=>nd.1 ?_;refine aQ (List.mem_map.mp hp) λc hc dp=>?_;subst dp;exact e▸List.mem_map_of_mem (f:=λc:Cell=>c.2.1) hc
 |cons c pre ih=>
  simp only [List.cons_append,List.map_cons,List.nodup_cons] at nd;refine .tail (λe=>nd.1 ?_) (ih nd.2);simp only [e];simp
def Gs.ZF (X:Px)(H:Hp)(cs:List Cell)(a:Nat)(ob:Obj)(Z:Prop):Prop:=∀(g:Obj->List Cell)(U:UpdF a ob (nw cs) (λo'=>nw (g o'))) (K:∀o',dJ cs (g o')) (hG:∀o',(some a,a,o')∈g o') (R:∀o' O',i4 X (g o') a O'->Rep X (g o') (H.upd a O')),Z
def Gs (X H cs a ob):=∀Z:Prop,Gs.ZF X H cs a ob Z->Z
theorem Gs.mk:Gs.ZF X H cs a ob (Gs X H cs a ob):=λg U K hG R _ Z=>Z g U K hG R
theorem At.EA (hA:At G fm cs s H)(hm:(some a,a,ob)∈cs):Gs Γ.X H cs a ob:=by
 refine tF (List.append_of_mem hm) λpre post e=>?_;have hR:=hA.R;subst e;exact (.mk (λo'=>pre++(some a,a,o')::post) (UpdF.at hR.nd) (λo'=>dJ.set) (λo'=>List.mem_append_right _ (.head _)) (λo' O' ho=>Rep.set hR ho))
theorem dK.push {vs:Array Value}(h:dK xs vs.toList)(hc:VR x c):dK (xs++[x]) (vs.push c).toList:=by
 rw [Array.toList_push];exact h.append ⟨hc,trivial⟩
theorem IY (hA:At G fm cs s H)(hx:H a=some (.list xs))(hw:VR w cw)(hz:xs.length<1000)(h:Q .none (H.upd a (.list (xs++[w])))):
  wG G (call (.builtin "list.append") [.ref a,cw]) (bb G fm cs s VR Q) nE s:=by
 refine (hA.list hx) _ λvs n g1 r1 hm=>?_;have e1:=r1.length;refine (hA.ur (ob':=listOf (vs.push cw) (n+1)) (o':=.list (xs++[w])) hm λpre post e=>(.mk _ _ (List.mem_append_right _ (.head _)) (r1.push hw))) _ λcs' U hK R'=>?_;refine append_K hA.F hA.N U (λh' F' N'=>.mk (av:=.none) (.mk rfl rfl rfl) (.mk F' N' R') hK rfl h) ?_;refine (Array.length_toList)▸(e1)▸?_;exact sz hz
theorem dK.Sk (h:dK xs vs)(hl:xs.getLast?=some w):∃ps y,kl_last vs=some (ps,y)/\VR w y/\dK xs.dropLast ps:=by
 induction xs generalizing vs with
 |nil=>injection hl
 |cons x xs ih=>induction vs using List.casesOn with
  |nil=>exact h.elim
  |cons v vs=>induction xs using List.casesOn with
   |nil=>induction vs with
    |cons _ _=>exact h.2.elim
    |nil=>
     cases hl;exact ⟨[],v,rfl,h.1,trivial⟩
   |cons x2 xs=>induction vs with
    |nil=>exact h.2.elim
    |cons v2 vs=>
     obtain ⟨ps,y,e1,e2,e3⟩:=ih h.2 (by rw [List.getLast?_cons_cons] at hl;exact hl);refine ⟨v::ps,y,?_,e2,⟨h.1,e3⟩⟩;rw [kl_last,e1]
     all_goals first|rfl|(intro;simp)
theorem VD (hA:At G fm cs s H)(hx:H a=some (.list xs))(hw:xs.getLast?=some w)(hz:xs.length<1000)(h:Q w (H.upd a (.list xs.dropLast))):
  wG G (call (.builtin "list.pop") [.ref a]) (bb G fm cs s VR Q) nE s:=by
 refine (hA.list hx) _ λvs n g1 r1 hm=>?_;have e1:=r1.length;refine nK (r1.Sk hw) λps y l1 l2 l3=>?_;refine (hA.ur (ob':=listOf ps.toArray (n+1)) (o':=.list xs.dropLast) hm λpre post e=>(.mk _ _ (List.mem_append_right _ (.head _)) (by simpa using l3))) _ λcs' U hK R'=>?_;refine kl_pop hA.F hA.N l1 U ?_ (λh' F' N'=>.mk (av:=w) (.mk rfl rfl rfl) (.mk F' N' R') hK l2 h);refine (e1)▸?_;exact sz hz
theorem IZ (hA:At G fm cs s H)(hx:H a=some (.list xs))(hy:H b=some (.list ys))(hz:xs.length<1000)(MQ:ys.length<1000)(dw:ys≠[])(h:Q .none (H.upd a (.list (xs++ys)))):
  wG G (call (.builtin "list.extend") [.ref a,.ref b]) (bb G fm cs s VR Q) nE s:=by
 refine (hA.list hx) _ λvs n g1 r1 hm=>?_;refine (hA.list hy) _ λws n2 g2 r2 HS=>?_;have e1:=r1.length;have e2:=r2.length;refine (hA.ur (ob':=listOf (vs.toList++ws.toList).toArray (n+1)) (o':=.list (xs++ys)) hm λpre post e=>(.mk _ _ (List.mem_append_right _ (.head _)) (by simpa using r1.append r2))) _ λcs' U hK R'=>?_;have q:sizeLine=2 ^ 24:=rfl;have q1:vs.size=xs.length:=by simp only [e1,Array.length_toList]
 have q2:ws.size=ys.length:=by simp only [e2,Array.length_toList]
 refine kl_extend hA.F hA.N (bO HS) rfl ?_ U ?_ ?_ ?_ (λh' F' N'=>.mk (av:=.none) (.mk rfl rfl rfl) (.mk F' N' R') hK rfl h)
 ·refine e2▸?_;intro z;exact dw (List.length_eq_zero_iff.mp z)
 ·intro z
  have:=(Bool.and_eq_true_iff.mp z).2;unfold Builtin.List.listTooLong at this;have:=of_decide_eq_true this;omega
 ·refine e1▸?_;exact sz hz
 ·omega
theorem DR.get (h:DR ds lQ):VR ((dictGet i ds).getD .none) ((valueAt lQ i).getD .none)/\((dictGet i ds).isSome=(valueAt lQ i).isSome):=by
 induction ds generalizing lQ with
 |nil=>induction lQ with
  |nil=>exact ⟨rfl,rfl⟩
  |cons _ _=>exact h.elim
 |cons d ds ih=>induction lQ with
  |nil=>exact h.elim
  |cons e es=>
   refine gC h λh1 h2 h3=>?_;delta dictGet valueAt;rw [List.find?_cons,List.find?_cons,h1];by_cases q:d.1=i
   ·simp only [q,decide_true]
    exact ⟨h2,rfl⟩
   ·simp only [q,decide_false]
    exact ih h3
theorem DR.any (h:DR ds lQ):ds.any (λe=>e.1=i)=lQ.any (λe=>e.1=i):=by
 induction ds generalizing lQ with
 |nil=>induction lQ with
  |nil=>rfl
  |cons _ _=>exact h.elim
 |cons d ds ih=>induction lQ with
  |nil=>exact h.elim
  |cons e es=>simp only [List.any_cons,List.any_cons,h.1,ih h.2.2]
theorem DR.map (hw:VR w cw)(h:DR ds lQ):DR (ds.map λe=>if e.1=i then (e.1,w) else e) (lQ.map λe=>if e.1=i then (e.1,cw) else e):=by
 induction ds generalizing lQ with
 |nil=>induction lQ with
  |nil=>trivial
  |cons _ _=>exact h.elim
 |cons d ds ih=>induction lQ with
  |nil=>exact h.elim
  |cons e es=>
   refine ⟨?_,?_,ih h.2.2⟩
   ·dsimp only;rw [h.1];split<;>simp [h.1]
   ·dsimp only;rw [h.1];split<;>first|exact hw|exact h.2.1
theorem DR.snoc (hw:VR w cw)(h:DR ds lQ):DR (ds++[(i,w)]) (lQ++[(i,cw)]):=by
 induction ds generalizing lQ with
 |nil=>induction lQ with
  |nil=>exact ⟨rfl,hw,trivial⟩
  |cons _ _=>exact h.elim
 |cons d ds ih=>induction lQ with
  |nil=>exact h.elim
  |cons e es=>exact ⟨h.1,h.2.1,ih h.2.2⟩
theorem DR.stored (hw:VR w cw)(h:DR ds lQ):DR (dictPut i w ds) (stored lQ i cw):=by
 delta dictPut PySem.stored;refine (h.any)▸?_;split
 ·exact h.map hw
 ·exact h.snoc hw
theorem DR.without (h:DR ds lQ):DR (dictDel i ds) (without lQ i):=by
 delta dictDel PySem.without;induction ds generalizing lQ with
 |nil=>induction lQ with
  |nil=>trivial
  |cons _ _=>exact h.elim
 |cons d ds ih=>induction lQ with
  |nil=>exact h.elim
  |cons e es=>
   rw [List.filter_cons,List.filter_cons,h.1];split
   ·exact ⟨h.1,h.2.1,ih h.2.2⟩
   ·exact ih h.2.2
theorem DR.length (h:DR ds lQ):ds.length=lQ.length:=by
 induction ds generalizing lQ with
 |nil=>induction lQ with
  |nil=>rfl
  |cons _ _=>exact h.elim
 |cons d ds ih=>induction lQ with
  |nil=>exact h.elim
  |cons e es=>simp [ih h.2.2]
theorem VE (hA:At G fm cs s H)(hx:H a=some (.dict ds))(h:Q ((dictGet i ds).getD .none) H):
  wG G (call (.builtin "dict.get") [.ref a,.int i t]) (bb G fm cs s VR Q) nE s:=by
 refine (hA.R.rep _ _ hx) _ λo lQ hm hd lo hr=>?_;exact kdg_get1 hA.N (bO hm) hd lo (intKind_is _ _ i t) _ rfl (.mk (.mk rfl rfl rfl) (hA.tok _) .refl hr.get.1 h)
theorem xw (cw:Value):∀(l:List Value)(j:Nat),j<l.length->ki_setL l j cw=some (l.set j cw)
 |[],j,hj=>by contradiction
 |x::l,0,hj=>rfl
 |x::l,j+1,hj=>by simp only [ki_setL,xw cw l j (Nat.lt_of_succ_lt_succ hj)];rfl
theorem Dh (hA:At G fm cs s H)(hv:VR v cv)(hj:VR j cj)(hw:VR w cw)(h:oX H v j w Q):
  wG G (setItem cv cj cw) (bb G fm cs s HR (λ(Z:Unit) H=>Q H)) nE s:=by
 induction h with
 |list a i xs hx h0 h1 h2 h=>
  refine (show cv=_ from hv)▸?_;obtain ⟨t,rfl⟩:=hj;refine (hA.list hx) _ λvs n g1 r1 hm=>?_;refine (hA.ur (ob':=listOf (vs.toList.set i.toNat cw).toArray n) (o':=.list (xs.set i.toNat w)) hm λpre post e=>(.mk _ _ (List.mem_append_right _ (.head _)) (by simpa using r1.set hw))) _ λcs' U hK R'=>?_;exact ki_set hA.F hA.N h0 (by omega) (xw _ _ _ (r1.length▸h2)) U (λh' F' N'=>.mk (.mk rfl rfl rfl) (.mk F' N' R') hK rfl h)
 |dict a i ds hx hz h=>
  refine (show cv=_ from hv)▸?_;obtain ⟨t,rfl⟩:=hj;refine (hA.R.rep _ _ hx) _ λo lQ hm hd lo hr=>?_;refine (hA.EA hm) _ λg U hK hG R'=>?_;exact kda_set hA.F hA.N U hd (intKind_is _ _ i t) (sz (hr.length▸hz)) λh' o' F' N' Iv=>.mk (.mk rfl rfl rfl) (.mk F' N' (R' o' (.dict (dictPut i w ds)) (.mk o' _ (hG o') Iv lo (hr.stored hw)))) (hK _) rfl h
theorem Di (hA:At G fm cs s H){Q:Hp->Prop}(hx:H a=some (.dict ds))(hz:ds.length<1000)(hi:(dictGet i ds).isSome=true)(h:Q (H.upd a (.dict (dictDel i ds)))):
  wG G (delItem (.ref a) (.int i t)) (bb G fm cs s HR (λ(Z:Unit) H=>Q H)) nE s:=by
 refine (hA.R.rep _ _ hx) _ λo lQ hm hd lo hr=>?_;refine (hA.EA hm) _ λg U hK hG R'=>?_;exact kob_del hA.F hA.N U hd (intKind_is _ _ i t) (by refine (hr.get.2)▸?_;exact hi) (sz (hr.length▸hz)) λh' o' F' N' Iv=>.mk (.mk rfl rfl rfl) (.mk F' N' (R' o' (.dict (dictDel i ds)) (.mk o' _ (hG o') Iv lo hr.without))) (hK _) rfl h
theorem Gu (hA:At G fm cs s H){id:String}(hx:H a=some (.list xs))(slot:Slot "list" name id)(Zq:typeOf (.builtin id)=pure (.type "method_descriptor"))(h:P (.builtin id,[.ref a]) s):
  wG G (getMethod (.ref a) name pl) P nE s:=by
 refine (hA.list hx) _ λvs n g1 r1 hm=>?_;exact kl_method hA.N (bO hm) slot Zq h
theorem dK.only (h:dK [w] vs):∃c,vs=[c]/\VR w c:=by
 induction vs using List.casesOn with
 |nil=>exact h.elim
 |cons c vs=>induction vs with
  |nil=>exact ⟨c,rfl,h.1⟩
  |cons _ _=>exact h.2.elim
theorem sI (bp:cE Γ k r)(O:G.Ok k){nm:Nm}(hm:bZ (ME n G.sc) es ps){id:String}(hx:H a=some (.list xs))
  (slot:Slot "list" nm.s id)(Zq:typeOf (.builtin id)=pure (.type "method_descriptor"))(h:nH r es m H Q1)(hA:At G fm cs s H)(hL:aw G fm cs m)
  (q:∀cs' s' H' cM vs,At G fm cs' s' H'->dK cM vs->Q1 cM H'->wG G (call (.builtin id) ([.ref a]++vs)) (bb G fm cs' s' VR Q) nE s'):
  wG G (getMethod (.ref a) nm.s pl) (λfx s'=>wG G (callWith pos fx.1 fx.2 (backTo pos (starEach ps G.env)) []) (bb G fm cs s VR Q) nE s') nE s:=
 Gu hA hx slot Zq (tM bp O hm h hA hL λcs' s' H' cM vs hS bJ Z hK j0 h'=>wpAny_mono (q cs' s' H' cM vs bJ j0 h') (λZ Z z=>z.weak hS hK) λZ Z x=>x)
theorem Gv (bp:cE Γ k r)(O:G.Ok k)(hm:bZ (ME n G.sc) es ps)(hx:H a=some (.dict ds))
  (h:nH r es m H λvs H=>MT H Q (.ref a) vs) (hA:At G fm cs s H) (hL:aw G fm cs m):
  wG G (getMethod (.ref a) Nm.m8.s pl) (λfx s'=>wG G (callWith pos fx.1 fx.2 (backTo pos (starEach ps G.env)) []) (bb G fm cs s VR Q) nE s') nE s:=by
 refine (hA.R.rep _ _ hx) _ λo lQ CI hd lo hr=>?_;refine kdg_method hA.N (bO CI) hd (tM bp O hm h hA hL λcs' s' H' cM vs hS bJ Z hK j0 h'=>?_);cases h' with|mk a es i oR h'=>
 refine aQ j0.only λc dp FX=>?_;subst dp;obtain ⟨t,rfl⟩:=FX;exact wpAny_mono (VE bJ oR h') (λZ Z z=>z.weak hS hK) λZ Z x=>x
theorem I0 (hA:At G fm cs s H)(j0:dK cM vs)(h:MO H Q (.ref a) cM):wG G (call (.builtin "list.append") ([.ref a]++vs)) (bb G fm cs s VR Q) nE s:=by
 cases h with|mk a xs w hx hz h=>
 refine aQ j0.only λc dp hc=>?_;subst dp;exact IY hA hx hc hz h
theorem VF (hA:At G fm cs s H)(j0:dK cM vs)(h:MR H Q (.ref a) cM):wG G (call (.builtin "list.pop") ([.ref a]++vs)) (bb G fm cs s VR Q) nE s:=by
 cases h with|mk a xs w hx hz hw h=>
 induction vs with
 |cons _ _=>exact j0.elim
 |nil=>exact VD hA hx hw hz h
theorem I2 (hA:At G fm cs s H)(j0:dK cM vs)(h:MP H Q (.ref a) cM):wG G (call (.builtin "list.extend") ([.ref a]++vs)) (bb G fm cs s VR Q) nE s:=by
 cases h with|mk a xs b ys hx hy MQ hz dw h=>
 refine aQ j0.only λc dp hc=>?_;subst dp;rw [show c=_ from hc];exact IZ hA hx hy hz MQ dw h
end
inductive VG:Fl->Flow->Prop
 |next:VG .next .next
 |brk:VG .brk .brk
 |ret {v:V} {c:Value} (h:VR v c):VG (.ret v) (.ret c)
inductive dj {Γ:Cx}(G:Gx Γ)(cs:List Cell)(s:Shared)(Q:FP)(fl:Flow)(s':Shared):Prop
 |Rx (h1:cO s s') (n6:OV) (cs':List Cell) (H':Hp) (m':Loc) (af:Fl) (h2:At G n6 cs' s' H') (h3:dJ cs cs') (h4:aw G n6 cs' m') (h5:VG af fl) (h6:Q af m' H')
theorem dj.mk (h1:cO s s')(h2:At G n6 cs' s' H')(h3:dJ cs cs')(h4:aw G n6 cs' m')(h5:VG af fl)(h6:Q af m' H'):
  dj G cs s Q fl s':=⟨h1,n6,cs',H',m',af,h2,h3,h4,h5,h6⟩
theorem dj.weak (h:dj G uT ba Q fl s')(hs:cO s ba)(k:dJ cs uT):dj G cs s Q fl s':=by
 obtain ⟨h1,n6,cs',H',m',af,h2,h3,h4,h5,h6⟩:=h;exact ⟨hs.trans h1,n6,cs',H',m',af,h2,k.trans h3,h4,h5,h6⟩
def Nj (Γ:Cx)(k:Nat)(r:Ev):Prop:=∀(G:Gx Γ),G.Ok k->G.loc=G.L->∀n st ps m H Q,MS n G.sc st ps->r.S st m H Q->∀fm cs s,At G fm cs s H->aw G fm cs m->
 wG G (exec ps G.env) (dj G cs s Q) nE s
set_option tactic.hygienic true in
theorem jh (x:Nm)(v:V):∀m:NV,look x (put x v m)=some v:=by
 intro m;induction m with
 |nil=>
  simp [Internal.put,look]
 |cons p m ih=>
  obtain ⟨y,w⟩:=p;unfold Internal.put;split
  ·simp [look]
  ·rename_i h;unfold look;rw [if_neg h];exact ih
set_option tactic.hygienic true in
theorem iC (h:y≠x)(v:V):∀m:NV,look y (put x v m)=look y m:=by
 intro m;induction m with
 |nil=>
  simp [Internal.put,look,Ne.symm h]
 |cons p m ih=>
  obtain ⟨z,w⟩:=p;unfold Internal.put;split
  ·rename_i e
   subst e;unfold look;rw [if_neg (Ne.symm h),if_neg (Ne.symm h)]
  ·unfold look
   split
   ·rfl
   ·exact ih
section
variable {G:Gx Γ}
theorem aw.put (KO:gE Γ)(de:G.loc=G.L)(hx:bz G.sc x=true)(hv:VR v cv)(h:aw G fm cs m):aw G (λy=>if y=x.s then some cv else fm y) cs (put x v m):=λy w hy hw=>by
 by_cases e:y=x
 ·subst e
  rw [jh] at hw;cases hw;exact .loc de (beq_iff_eq.mp hx) cv (if_pos rfl) hv
 ·rw [iC e] at hw
  induction h y w hy hw with
  |loc h1 h2 c h3 h4=>exact .loc h1 h2 c ((if_neg (λz=>e (KO.inj _ _ z))).trans h3) h4
  |cell h1 c o cv h2 h3 h4 h5=>exact .cell h1 c o cv h2 h3 h4 h5
  |ns h1 oC m₂ cv h2 h3 h4 h5=>exact .ns h1 oC m₂ cv h2 h3 h4 h5
theorem ic (KO:gE Γ)(de:G.loc=G.L)(O:G.Ok k)(hx:bz G.sc x=true)(hv:VR v cv)(hA:At G fm cs s H)(hL:aw G fm cs m)
  (next:∀s',cO s s'->At G (λy=>if y=x.s then some cv else fm y) cs s' H->aw G (λy=>if y=x.s then some cv else fm y) cs (put x v m)->P () s'):wG G (storeName G.env x.s cv) P nE s:=by
 have Nk:s.heap.Ns G.env.locals fm:=by show s.heap.Ns G.loc fm;rw [de];exact hA.F.ns
 refine wpAny_storeName_local (env:=G.env) (beq_iff_eq.mp hx) Nk (λh' hn hs=>?_) (by show (G.sc.kind==.class||(G.sc.kind==.module&&G.loc !=mainGlobals))=false;rw [O.kind];rfl);have e:G.env.locals=G.L:=de;rw [e] at hn hs;exact next _ (.mk rfl rfl rfl) (.mk (hA.F.set hn hs) (hA.N.set hs) hA.R) (hL.put KO de hx hv)
theorem xx:swapsWith v (some (.Attribute o a p)) l env=pure false:=by cases v<;>rfl
theorem I3:swapsWith v (some (.Subscript o i p)) l env=pure false:=by cases v<;>rfl
theorem AX (h:mG v=true):swapsWith v t l env=pure false:=by cases v<;>first|rfl|exact Bool.noConfusion h
theorem Nl (bp:cE Γ k r)(O:G.Ok k)(hc:mG v=true)(hm:ME n G.sc e v)(h:r.E e m H λZ H=>Q .next m H) (hA:At G fm cs s H) (hL:aw G fm cs m):
  wG G (exec (.Expr v pos) G.env) (dj G cs s Q) nE s:=
 wpAny_Expr_any (eU bp O hm h hA hL λZ Z Z Z Z hS bJ ef hK Z h'=>.mk hS bJ hK ef .next h') (by unfold interactive;refine (?_:((G.sc.kind==.module)&&_)=false);rw [O.kind];rfl) (AX hc)
theorem Sl (KO:gE Γ)(bp:cE Γ k r)(O:G.Ok k)(de:G.loc=G.L)(hx:bz G.sc x=true)(hc:mG v=true)(hm:ME n G.sc e v)(h:r.E e m H λv H=>Q .next (put x v m) H) (hA:At G fm cs s H) (hL:aw G fm cs m):
  wG G (exec (.Assign [.Name x.s p] v pos) G.env) (dj G cs s Q) nE s:=
 wpAny_Assign_Name (eU bp O hm h hA hL λZ Z Z Z Z hS bJ ef hK hv h'=>ic KO de O hx hv bJ ef λZ iP dZ mH=>.mk (hS.trans iP) dZ hK mH .next h') (AX hc)
theorem Dj (KO:gE Γ)(bp:cE Γ k r)(O:G.Ok k)(h1:ME n G.sc o ov)(h2:ME n G.sc e v)(h:r.E e m H λw H=>r.E o m H λv H=>fJ H v x w λH=>Q .next m H) (hA:At G fm cs s H) (hL:aw G fm cs m):
  wG G (exec (.Assign [.Attribute ov x.s p] v pos) G.env) (dj G cs s Q) nE s:=
 plainObj_wpAny_Assign_Attribute (eU bp O h2 h hA hL λZ Z Z Z Z hS bJ ef hK hv h'=>eU bp O h1 h' bJ ef λZ Z Z Z Z iP dZ mH mI hw lU=>
  wpAny_mono (n4 KO O dZ hw (show VR _ _ from hv) lU) (λ_ _ ⟨z1,I4,H3,_,z2,z3,_,z4⟩=>.mk ((hS.trans iP).trans z1) z2 ((hK.trans mI).trans z3) (mH.keep z3) .next z4) λZ Z x=>x) xx
theorem Gw (bp:cE Γ k r)(O:G.Ok k)(h1:ME n G.sc o ov)(h2:ME n G.sc i iv)(h3:ME n G.sc e v)
  (h:r.E e m H λw H=>r.E o m H λv H=>r.E i m H λj H=>oX H v j w λH=>Q .next m H) (hA:At G fm cs s H) (hL:aw G fm cs m):
  wG G (exec (.Assign [.Subscript ov iv p] v pos) G.env) (dj G cs s Q) nE s:=
 wpAny_Assign_Subscript (eU bp O h3 h hA hL λZ Z Z Z Z hS bJ ef hK hv h'=>eU bp O h1 h' bJ ef λZ Z Z Z Z iP mK Sn mI hw t8=>eU bp O h2 t8 mK Sn λZ Z Z Z Z Ct tK Nc VC hj Nn=>
  wpAny_mono (Dh tK hw hj hv Nn) (λ_ _ ⟨z1,I4,H3,_,z2,z3,_,z4⟩=>.mk (((hS.trans iP).trans Ct).trans z1) z2 (((hK.trans mI).trans VC).trans z3) (Nc.keep z3) .next z4) λZ Z x=>x) I3
theorem VH (i5:nv Γ k r)(O:G.Ok k)(hm:ME n G.sc c pc)(h:r.T c m H λb H=>if b then eK r t m H Q else eK r e m H Q)
  (hT:∀{cs s H},eK r t m H Q->At G fm cs s H->aw G fm cs m->wG G (execs pt G.env) (dj G cs s Q) nE s)
  (hE:∀{cs s H},eK r e m H Q->At G fm cs s H->aw G fm cs m->wG G (execs pe G.env) (dj G cs s Q) nE s)
  (hA:At G fm cs s H) (hL:aw G fm cs m):wG G (exec (.If pc pt pe pos) G.env) (dj G cs s Q) nE s:=
 wpAny_If (Df i5 O hm h hA hL λcs' s' H' b hS bJ ef hK h'=>by
  induction b
  ·exact wpAny_mono (hE h' bJ ef) (λZ Z z=>z.weak hS hK) λZ Z x=>x
  ·exact wpAny_mono (hT h' bJ ef) (λZ Z z=>z.weak hS hK) λZ Z x=>x)
theorem I5 (bp:cE Γ k r)(O:G.Ok k)(hm:ME n G.sc e v)(h:r.E e m H λv H=>Q (.ret v) m H) (hA:At G fm cs s H) (hL:aw G fm cs m):
  wG G (exec (.Return (some v) pos) G.env) (dj G cs s Q) nE s:=
 wpAny_Return_some (eU bp O hm h hA hL λZ Z Z Z Z hS bJ ef hK hv h'=>.mk hS bJ hK ef (.ret hv) h')
theorem So (bp:cE Γ k r)(O:G.Ok k)(h1:ME n G.sc o ov)(h2:ME n G.sc i iv)(h:r.E o m H λv H=>r.E i m H λw H=>IF H (λH=>Q .next m H) v w) (hA:At G fm cs s H) (hL:aw G fm cs m):wG G (exec (.Delete [.Subscript ov iv p] pos) G.env) (dj G cs s Q) nE s:=by
 refine wpAny_Delete (wpAny_deleteEach_cons (wpAny_delete_Subscript (eU bp O h1 h hA hL λu1 u2 u3 av v hS bJ ef hK hv h'=>eU bp O h2 h' bJ ef λu4 u5 u6 bv w iP mK Sn mI hw t8=>?_)));induction t8 with|mk a j es hx hz hi hq=>
 refine (show v=_ from hv)▸?_;obtain ⟨t,rfl⟩:=hw;exact wpAny_mono (Di (Q:=λH=>Q .next m H) mK hx hz hi hq) (λZ Z z=>by obtain ⟨z1,I4,H3,u5,z2,z3,u6,z4⟩:=z;exact wpAny_deleteEach_nil (.mk ((hS.trans iP).trans z1) z2 ((hK.trans mI).trans z3) (Sn.keep z3) .next z4)) λZ Z x=>x
theorem EB (xq:MU op po)(hv:VR v cv)(hw:VR w cw)(h:uP op v w Q)(hP:∀x cx t,VR x cx->Q x->P cx {s with toks:=t}):
  wG G (inplaceOp po cv cw) P nE s:=by
 subst xq;induction h with
 |add i j h=>exact M8 hv hw λt u=>iadd_int (hP (.int _) _ _ ⟨_,rfl⟩ h)
 |sub i j h=>exact M8 hv hw λt u=>isub_int (hP (.int _) _ _ ⟨_,rfl⟩ h)
theorem I6 (h:bz sc x=true):ng sc x=true:=by
 unfold bz at h;unfold ng;rw [beq_iff_eq.mp h]
theorem Sp (KO:gE Γ)(bp:cE Γ k r)(O:G.Ok k)(de:G.loc=G.L)(hx:bz G.sc x=true)(xq:MU op po)(hm:ME n G.sc e v)
  (h:nY m x λv=>r.E e m H λw H=>uP op v w λu=>Q .next (put x u m) H) (hA:At G fm cs s H) (hL:aw G fm cs m):wG G (exec (.AugAssign (.Name x.s p) po v pos) G.env) (dj G cs s Q) nE s:=by
 refine h _ λw hw h=>?_;exact wpAny_AugAssign_Name (AL O (I6 hx) hw (λcv hr=>eU bp O hm h hA hL λZ Z Z Z Z hS bJ ef hK hv h'=>EB xq hr hv h' λz cz t hz hq=>
  ic KO de O hx hz (bJ.tok t) ef λZ Ai mK Sn=>.mk (hS.trans (cO.of Ai rfl rfl)) mK hK Sn .next hq) hA hL)
theorem Dk (KO:gE Γ)(bp:cE Γ k r)(O:G.Ok k)(xq:MU op po)(h1:ME n G.sc o ov)(hm:ME n G.sc e v)
  (h:r.E o m H λv H=>rD H v x λu=>r.E e m H λw H=>uP op u w λz=>fJ H v x z λH=>Q .next m H) (hA:At G fm cs s H) (hL:aw G fm cs m):
  wG G (exec (.AugAssign (.Attribute ov x.s p) po v pos) G.env) (dj G cs s Q) nE s:=by
 refine wpAny_AugAssign_AttributeAny (eU bp O h1 h hA hL λzZ s1 H1 av cv hS bJ ef hK hv h'=>?_);refine wpAny_mono (AM (Q:=λu H=>r.E e m H λw H=>uP op u w λz=>fJ H av x z λH=>Q .next m H) KO O bJ hv h') (λcu s2 z=>?_) λZ Z x=>x;obtain ⟨z1,kO,H2,u,mK,AY,hu,h2⟩:=z;refine eU bp O hm h2 mK (ef.keep AY) λI4 s3 H3 w cw Ct tK Nc VC hw h3=>EB xq hu hw h3 λy cy t hy hq=>?_;exact wpAny_mono (n4 (Q:=λH=>Q .next m H) KO O (tK.tok t) hv hy hq) (λ_ _ ⟨z5,I4,H3,_,z2,z3,_,z4⟩=>.mk (((hS.trans z1).trans Ct).trans (cO.of z5 rfl rfl)) z2 (((hK.trans AY).trans VC).trans z3) (Nc.keep z3) .next z4) λZ Z x=>x
theorem tN (KO:gE Γ)(de:G.loc=G.L)(O:G.Ok k)(hm:HQ G.sc xs ts):∀{vs:List V}{cvs:List Value}{m:Loc}{fm:OV}{s:Shared}{P:Unit->Shared->Prop},dK vs cvs->vs.length=xs.length->
  At G fm cs s H->aw G fm cs m->(∀n6 s',cO s s'->At G n6 cs s' H->aw G n6 cs (putAll xs vs m)->P () s')->wG G (assignInOrder ((assignEach ts G.env).map (·.2)) cvs) P nE s:=by
 induction hm with
 |nil=>
  intro vs cvs m fm s P hv hl hA hL next;obtain rfl:=List.eq_nil_of_length_eq_zero hl;obtain rfl:=List.eq_nil_of_length_eq_zero hv.length.symm;exact assignInOrder_nil (next _ _ .refl hA hL)
 |cons x xs p ps hx hm ih=>
  intro vs cvs m fm s P hv hl hA hL next;induction vs using List.casesOn with
  |nil=>injection hl
  |cons v vs=>induction cvs with
   |nil=>exact hv.elim
   |cons cv cvs=>
    refine assignInOrder_cons (assign_Name (ic KO de O hx hv.1 hA hL λs' hS bJ ef=>?_));exact ih hv.2 (Nat.succ.inj hl) bJ ef λn6 CL iP dZ mH=>next _ _ (hS.trans iP) dZ mH
theorem n7 (h:HQ sc xs ts):(assignEach ts env).length=xs.length/\(assignEach ts env).findIdx? (·.1)=none:=by
 induction h with
 |nil=>exact ⟨rfl,rfl⟩
 |cons x xs p ps hx hm ih=>
  rw [show assignEach (.Name x.s p::ps) env=(false,assign (.Name x.s p) env)::assignEach ps env from rfl];exact ⟨congrArg (·+1) ih.1,by rw [List.findIdx?_cons,ih.2];rfl⟩
theorem u0 (KO:gE Γ)(de:G.loc=G.L)(O:G.Ok k)(hx:HQ G.sc xs ts)(h:IE xs m (λm H=>Q .next m H) v H) (hv:VR v cv) (hA:At G fm cs s H) (hL:aw G fm cs m):wG G (assign (.Tuple ts kk p) G.env cv) (λZ=>dj G cs s Q .next) nE s:=by
 obtain ⟨a,vs,oR,hl,hq⟩:=h;rw [show cv=_ from hv];refine (hA.isTup oR) _ λl i1 r1=>?_;refine cX (n7 (env:=G.env) hx) λe1 e2=>?_;refine unpackN_ hA.F hA.N i1 O.hh (show _=l.length by simp only [e1,<- r1.length,hl]) e2 λh2 F' N'=>?_;exact tN (s:={s with heap:=h2}) KO de O hx r1 hl (.mk F' N' hA.R) hL λn6 CL iP dZ mH=>.mk (cO.of iP rfl rfl) dZ .refl mH .next hq
theorem Gy (KO:gE Γ)(bp:cE Γ k r)(O:G.Ok k)(de:G.loc=G.L)(hx:HQ G.sc xs ts)(hm:ME n G.sc e (.Call f as kw cp))
  (h:r.E e m H (IE xs m λm H=>Q .next m H)) (hA:At G fm cs s H) (hL:aw G fm cs m):wG G (exec (.Assign [.Tuple ts kk p] (.Call f as kw cp) pos) G.env) (dj G cs s Q) nE s:=
 PyProof.Rows.Assign_Tuple (eU bp O hm h hA hL λcs' s' H' av cv hS bJ ef hK hv h'=>wpAny_mono (u0 KO de O hx h' hv bJ ef) (λZ Z z=>z.weak hS hK) λZ Z x=>x)
end
section
set_option backward.match.sparseCases true
theorem Dl {v:β}{l:List (Str×β)}:((x,v)::l).lookup x=some v:=by rw [List.lookup_cons,beq_self_eq_true]
theorem yW {v:β}{l:List (Str×β)}(h:x≠y):((y,v)::l).lookup x=l.lookup x:=by rw [List.lookup_cons,beq_eq_false_iff_ne.mpr h]
theorem AZ {ns:List Str}:∀{vs:List Value},vs.length=ns.length->∀n∈ns,((ns.zip vs).lookup n).isSome=true:=by
 induction ns with
 |nil=>exact λZ n h=>absurd h List.not_mem_nil
 |cons n ns ih=>
  intro vs;induction vs using List.casesOn with
  |nil=>exact λh=>Nat.noConfusion h
  |cons v vs=>
   intro hl x h;refine (?_:(((n,v)::ns.zip vs).lookup x).isSome=true);by_cases e:x=n
   ·exact e▸Dl▸rfl
   ·rw [yW e];exact ih (Nat.succ.inj hl) x ((List.mem_cons.mp h).resolve_left e)
theorem I7 {ns:List Str}:vs.length=ns.length->ns.Nodup->∀(pre:List (Str×Value)),(∀n∈ns,pre.lookup n=none)->(ns.filterMap λn=>((pre++ns.zip vs).lookup n).map (n,·))=ns.zip vs:=by
 induction ns generalizing vs with
 |nil=>exact λZ Z Z Z=>rfl
 |cons n ns ih=>
  intro hl nd pre hp;induction vs with
  |nil=>injection hl
  |cons v vs=>
   have h1:(pre++(n,v)::ns.zip vs).lookup n=some v:=by
    simp only [List.lookup_append,hp n (.head _),Option.none_or,List.lookup_cons,beq_self_eq_true]
   rw [List.zip_cons_cons,List.filterMap_cons,h1];have:=ih (Nat.succ.inj hl) (List.nodup_cons.mp nd).2 (pre++[(n,v)]) λx hx=>by
    simp only [List.lookup_append,hp x (.tail _ hx),Option.none_or,List.lookup_cons,show (x==n)=false from beq_eq_false_iff_ne.mpr λe=>(List.nodup_cons.mp nd).1 (by rw [<- e];exact hx)];rfl
   rw [List.append_assoc] at this;exact congrArg _ this
theorem I8 {E:SP}{slots:List (Str×Value)}(l:List (Str×Value))(hf:∀p∈l,f p slots=pure (.yield slots)) (h:Q slots s):wpAny M A (forIn l slots f) Q E s:=by
 induction l with
 |nil=>exact wpAny_pure h
 |cons p l ih=>
  rw [List.forIn_cons,hf p (.head _)];exact wpAny_bind (wpAny_pure (ih λq hq=>hf q (.tail _ hq)))
theorem yX {E:SP}{Q:α->Shared->Prop}{a b:Sem α}(h:c=false)(x:wpAny M A b Q E s):wpAny M A (if c=true then a else b) Q E s:=by
 subst h;exact x
theorem A2 {o:Option Value}(h:o.isSome=true):¬(o.isNone=true):=by induction o<;>first|injection h;done|exact nofun
theorem Gz {ns:List Str}{vs:List Value}(hl:vs.length=ns.length)(k:Nat):(!((ns.take k).filter λn=>((ns.zip vs).lookup n).isNone).isEmpty)=false:=by
 rw [List.filter_eq_nil_iff.mpr λx hm=>A2 (AZ hl x (List.mem_of_mem_take hm))];rfl
theorem GA (h1:fd.params.posonlyargs=[])(h2:fd.params.args.map (·.arg)=ns)(h3:fd.params.vararg=none)(h4:fd.params.kwonlyargs=[])(h5:fd.params.kwarg=none)(nd:ns.Nodup)
  (hl:vs.length=ns.length)(wZ:∀(M:Model)(A:Around)(E:SP)(Q:Option (Array Value)->Shared->Prop),(∀d,Q d s)->wpAny M A (seqItems? fd.defaults) Q E s):BindsTo s fd ⟨vs,[]⟩ (ns.zip vs):=by
 obtain ⟨nm,qn,⟨pa,as,va,ko,kd,kw,df⟩,f4,f5,f6,f7,f8,f9,f10,f11,f12,f13,f14,f15⟩:=fd;dsimp only at h1 h2 h3 h4 h5 wZ;subst h1 h2 h3 h4 h5;intro M A E Q hq;refine wpAny_bind (wpAny_pure (wpAny_bind (wZ _ _ _ _ λd=>yX ?_ (yX (Gz hl _) (wpAny_bind (I8 _ (λp hp=>if_neg ?_) (wpAny_bind (wpAny_pure (yX rfl (wpAny_pure ?_))))))))))
 ·rw [Bool.and_eq_false_iff];left;exact decide_eq_false (by refine (hl)▸?_;exact Nat.lt_irrefl _)
 ·exact A2 (AZ hl _ (List.mem_of_mem_drop (List.of_mem_zip hp).1))
 ·have e:∀l:List Str,l=as.map (·.arg)->Q (l.filterMap λn=>(((as.map (·.arg)).zip vs).lookup n).map (n,·)) s:=λl e=>by have:=I7 hl nd [] λZ Z=>rfl;simp only [List.nil_append] at this;simp only [e,this];exact hq
  exact e _ (List.append_nil _)
theorem Dn (h1:fd.params.posonlyargs=[])(h2:fd.params.args.map (·.arg)=cZ.map Nm.s)(h3:fd.params.vararg=none)(h4:fd.params.kwonlyargs=[])(h5:fd.params.kwarg=none)
  (hD:D=#[.none,.none,.none,.none]) (wZ:∀(M:Model)(A:Around)(E:SP)(Q:Option (Array Value)->Shared->Prop),Q (some D) s->wpAny M A (seqItems? fd.defaults) Q E s):
  BindsTo s fd ⟨[a,b,c],[]⟩ ((cZ.map Nm.s).zip [a,b,c,.none,.none,.none,.none]):=by
 obtain ⟨nm,qn,⟨pa,as,va,ko,kd,kw,df⟩,f4,f5,f6,f7,f8,f9,f10,f11,f12,f13,f14,f15⟩:=fd;dsimp only at h1 h2 h3 h4 h5 wZ;subst h1 h3 h4 h5 hD;intro M A E Q hq;refine wpAny_bind (wpAny_pure (wpAny_bind (wZ _ _ _ _ ?_)));refine (h2)▸?_;exact wpAny_pure hq
noncomputable def mL (p:Arguments)(g:Fn):Bool:=p.posonlyargs.isEmpty&&(p.args.map (·.arg)==g.params.map Nm.s)&&p.vararg.isNone&&p.kwonlyargs.isEmpty&&p.kwarg.isNone
inductive A3 (K:Frag)(g:Fn):Value->Prop
 |none (h:(g.params==cZ)=false):A3 K g .none
 |seq (T oc od xs n sl) (hl:K.lookup T=some ⟨oc,od,.seq xs n,sl⟩) (h:(g.params==cZ)=true->xs.toList=[.none,.none,.none,.none]):A3 K g (.ref T)
noncomputable def Sq (sc:Scope)(x:Nm):Bool:=sc.names.lookup x.s==some .cell
noncomputable def sJ (g:Fn)(sc:Scope):Bool:=(g.params.all λx=>bz sc x||Sq sc x)&&decide ((cellsFrom 0 sc.names []).map (·.1)).Nodup&&!sc.isCoroutine&&!sc.isGenerator&&sc.kind==.function
def t9.ZF (MB:Scope->List Internal.S->List Stmt->Prop)(K:Frag)(a:Addr)(g:Fn)(Z:Prop):Prop:=∀od Sr (name:Str)(qual:Str)(params:Arguments)(b:List Stmt)(scope:Scope)(dV:Value)(kV:Value)(doc:Value)(pm:Value)(an:Option Addr)(ny:Value)(ct:Value)(hl:K.lookup a=some ⟨.type "function",od,.func (fnX name qual params b scope [] dV kV doc pm an ny ct),Sr⟩)(g5:codeIn K ny qual=true)(g6:mL params g=true)(g7:A3 K g dV)(g8:sJ g scope=true)(g9:g.params.Nodup)(Ss:MB scope g.body b),Z
def t9 (MB K a g):=∀Z:Prop,t9.ZF MB K a g Z->Z
theorem t9.mk {K}:t9.ZF MB K a g (t9 MB K a g):=λod Sr name qual params b scope dV kV doc pm an ny ct hl g5 g6 g7 g8 g9 Ss _ Z=>Z od Sr name qual params b scope dV kV doc pm an ny ct hl g5 g6 g7 g8 g9 Ss
abbrev MB (sc:Scope)(ss:List Internal.S)(ps:List Stmt):Prop:=bZ (MS 40 sc) ss ps
abbrev MBP (sc:Scope)(ss:List Internal.S)(ps:List Stmt):Prop:=bZ (Qp 40 sc) ss ps
abbrev Dp (K:Frag)(a:Addr)(g:Fn):Prop:=t9 MB K a g
abbrev yY (K:Frag)(a:Addr)(g:Fn):Prop:=t9 MBP K a g
theorem EC (h:y.2=.cell):cellsFrom n (y::names) acc=cellsFrom (n+1) names ((y.1,n)::acc):=if_pos (beq_iff_eq.mpr h)
theorem A4 (h:y.2≠.cell):cellsFrom n (y::names) acc=cellsFrom n names acc:=if_neg λe=>h (beq_iff_eq.mp e)
theorem u9 (names:List (Str×NameKind)):∀(n:Nat)(acc:List (Str×Addr)),(acc.map (·.2)).Nodup->(∀p∈acc,p.2<n)->((cellsFrom n names acc).map (·.2)).Nodup/\∀p∈cellsFrom n names acc,p∈acc\/n<=p.2:=by
 induction names with
 |nil=>exact λn acc h Z=>⟨h,λp hp=>.inl hp⟩
 |cons y names ih=>
  intro n acc h hl;by_cases e:y.2=.cell
  ·rw [EC e]
   refine cX (ih (n+1) ((y.1,n)::acc) (List.nodup_cons.mpr ⟨λq=>aQ (List.mem_map.mp q) λp hp e=>absurd ((show p.2=n from e)▸hl p hp) (Nat.lt_irrefl n),h⟩) λp hp=>(List.mem_cons.mp hp).elim (λe=>e▸Nat.lt_succ_self _) λhp=>Nat.lt_succ_of_lt (hl p hp)) λa b=>?_;exact ⟨a,λp hp=>(b p hp).elim (λq=>(List.mem_cons.mp q).elim (λe=>.inr (e▸Nat.le_refl _)) .inl) λq=>.inr (Nat.le_of_succ_le q)⟩
  ·rw [A4 e];exact ih n acc h hl
theorem cellsFrom_some {x:Str}(names:List (Str×NameKind)):∀(n:Nat)(acc:List (Str×Addr)),((x,NameKind.cell)∈names\/(acc.lookup x).isSome=true)->((cellsFrom n names acc).lookup x).isSome=true:=by
 induction names with
 |nil=>exact λn acc h=>h.elim (λh=>absurd h List.not_mem_nil) id
 |cons y names ih=>
  intro n acc h;by_cases e:y.2=.cell
  ·rw [EC e]
   refine ih _ _ ?_;by_cases q:x=y.1
   ·exact .inr (q▸Dl▸rfl)
   ·rw [yW q];exact h.imp_left λh=>(List.mem_cons.mp h).resolve_left λe=>q (congrArg Prod.fst e)
  ·rw [A4 e];exact ih _ _ (h.imp_left λh=>(List.mem_cons.mp h).resolve_left λq=>e (congrArg Prod.snd q).symm)
theorem lookup_mem {β:Type}{v:β}{l:List (Str×β)}:l.lookup x=some v->(x,v)∈l:=by
 induction l with
 |nil=>exact λh=>ip rfl h
 |cons y l ih=>
  intro h;by_cases e:x=y.1
  ·have h:some y.2=some v:=(e▸Dl:(y::l).lookup x=some y.2).symm.trans h
   exact e▸Option.some.inj h▸.head _
  ·exact .tail _ (ih ((yW e).symm.trans h))
theorem I9 (h:CellsAre cm cl cells):∀{n:Str}{c:Addr},(n,c)∈cl->∃o,(c,o)∈cells/\o.data=.cell (cm n):=by
 induction h with
 |nil=>intro n c h;contradiction
 |cons h1 h2 ih=>
  intro n c hm;rcases List.mem_cons.mp hm with q|q
  ·cases q;exact ⟨_,.head _,h1⟩
  ·obtain ⟨o,a,b⟩:=ih q;exact ⟨o,.tail _ a,b⟩
theorem Dq (h:CellsAre cm cl cells):cells.map (·.1)=cl.map (·.2):=by
 induction h with
 |nil=>rfl
 |cons h1 h2 ih=>simp [ih]
theorem Dr (ko:Str->Option NameKind):∀(bs:List (Str×Value))(m0:OV),(∀p∈bs,p.1≠y)->bindL ko bs m0 y=m0 y:=by
 intro bs;induction bs with
 |nil=>exact λZ Z=>rfl
 |cons p r ih=>
  intro m0 h;refine (ih _ λp hp=>h p (.tail _ hp)).trans ?_;by_cases e:ko p.1=some .local
  ·refine (if_pos e▸?_:(if ko p.1=some .local then λz=>if z=p.1 then some p.2 else m0 z else m0) y=m0 y)
   exact if_neg (λe=>h _ (.head _) e.symm)
  ·exact congrFun (if_neg e) y
theorem Ds (ko:Str->Option NameKind):∀(bs:List (Str×Value))(m0:OV),(∀p∈bs,p.1≠y)->bindC ko bs m0 y=m0 y:=by
 intro bs;induction bs with
 |nil=>exact λZ Z=>rfl
 |cons p r ih=>
  intro m0 h;refine (ih _ λp hp=>h p (.tail _ hp)).trans ?_;by_cases e:ko p.1=some .local
  ·exact congrFun (if_pos e) y
  ·exact (congrFun (if_neg e) y).trans (if_neg (λe=>h _ (.head _) e.symm))
def BG.ZF (ko:Str->Option NameKind)(x:Nm)(v:V)(bs:List (Str×Value))(m0:OV)(Z:Prop):Prop:=∀(cv:Value)(a:VR v cv)(b:ko x.s=some .local->bindL ko bs m0 x.s=some cv)(c:ko x.s≠some .local->bindC ko bs m0 x.s=some cv),Z
def BG (ko x v bs m0):=∀Z:Prop,BG.ZF ko x v bs m0 Z->Z
theorem BG.mk:BG.ZF ko x v bs m0 (BG ko x v bs m0):=λcv a b c _ Z=>Z cv a b c
theorem Np (hs:∀q∈bs,q.1≠y) (hk:ko y=some .local):bindL ko ((y,c)::bs) m0 y=some c:=by
 rw [bindL,Dr _ _ _ hs,if_pos hk];exact if_pos rfl
theorem Nq (hs:∀q∈bs,q.1≠y) (hk:ko y≠some .local):bindC ko ((y,c)::bs) m0 y=some c:=by
 rw [bindC,Ds _ _ _ hs,if_neg hk];exact if_pos rfl
theorem Ja (lS:∀a b:Nm,a.s=b.s->a=b) (ko:Str->Option NameKind):∀{vs:List V}{cvs:List Value}(m0:OV),dK vs cvs->vs.length=ps.length->ps.Nodup->look x (pad ps vs)=some v->BG ko x v ((ps.map Nm.s).zip cvs) m0:=by
 induction ps with
 |nil=>exact λm0 Z Z Z h=>ip rfl h
 |cons p ps ih=>
  intro vs;induction vs using List.casesOn with
  |nil=>exact λm0 Z hl=>Nat.noConfusion hl
  |cons v' vs=>
   intro cvs m0 hv hl nd h;refine eO (P:=λcvs=>BG ko x v (((p::ps).map Nm.s).zip cvs) m0) hv λc cvs VI ED=>?_;have h:(if p=x then some v' else look x (pad ps vs))=some v:=h;by_cases e:p=x
   ·rw [if_pos e] at h
    have hs:∀q∈(ps.map Nm.s).zip cvs,q.1≠x.s:=λq hq e1=>aQ (List.mem_map.mp (List.of_mem_zip hq).1) λz hz e2=>(List.nodup_cons.mp nd).1 (e▸(lS _ _ (e2.trans e1))▸hz);exact e▸.mk c (Option.some.inj h▸VI) (Np (e▸hs)) (Nq (e▸hs))
   ·rw [if_neg e] at h
    by_cases hk:ko x.s=some .local
    ·refine (ih (if ko p.s=some .local then λy=>if y=p.s then some c else m0 y else m0) ED (Nat.succ.inj hl) (List.nodup_cons.mp nd).2 h) _ λcv a b d=>?_;exact .mk cv a b λq=>absurd hk q
    ·refine (ih (if ko p.s=some .local then m0 else λy=>if y=p.s then some c else m0 y) ED (Nat.succ.inj hl) (List.nodup_cons.mp nd).2 h) _ λcv a b d=>?_;exact .mk cv a (λq=>absurd q hk) d
def jt.ZF (Γ:Cx)(Z:Prop):Prop:=∀(fn:∀f g,nX f=some g->nh f=false->nsIn Γ.K mainGlobals f.s=some (some (.ref (Γ.X.fa f)))/\Dp Γ.K (Γ.X.fa f) g) (EE:∀f g,nX f=some g->nh f=true->nsIn Γ.K mainGlobals f.s=some (some (.ref (Γ.X.fa f)))/\yY Γ.K (Γ.X.fa f) g) (me:∀c n g,meths c n=some g->lR c n=false->findIn Γ.K (.ref (Γ.X.cls c)) n.s=some (some (.ref (Γ.X.ma c n)))/\Dp Γ.K (Γ.X.ma c n) g) (GB:∀c n g,meths c n=some g->lR c n=true->findIn Γ.K (.ref (Γ.X.cls c)) n.s=some (some (.ref (Γ.X.ma c n)))/\yY Γ.K (Γ.X.ma c n) g) (made:∀c,d5 c=true->makesIn Γ.K (Γ.X.cls c)=true) (special:∀c,d5 c=true->keepIn Γ.K (.ref (Γ.X.cls c))=true),Z
def jt (Γ):=∀Z:Prop,jt.ZF Γ Z->Z
theorem jt.mk:jt.ZF Γ (jt Γ):=λfn EE me GB made special _ Z=>Z fn EE me GB made special
def jt.fn (Z:jt Γ):=Z _ λfn EE me GB made special=>fn
def jt.EE (Z:jt Γ):=Z _ λfn EE me GB made special=>EE
def jt.me (Z:jt Γ):=Z _ λfn EE me GB made special=>me
def jt.GB (Z:jt Γ):=Z _ λfn EE me GB made special=>GB
def jt.made (Z:jt Γ):=Z _ λfn EE me GB made special=>made
def jt.special (Z:jt Γ):=Z _ λfn EE me GB made special=>special
def VJ (Γ:Cx)(k:Nat)(C:Internal.Calls):Prop:=∀(G:Gx Γ),G.Ok k->G.loc=G.L->∀ss ps m H Q,MB G.sc ss ps->eK (ev C 40) ss m H Q->∀fm cs s,At G fm cs s H->aw G fm cs m->
 wG G (execs ps G.env) (dj G cs s Q) nE s
section
variable {G:Gx Γ}
theorem Su {K:Frag}(X:K.In s.heap)(h:A3 K g v){E:SP}(hq:∀d,Q d s):wpAny M A (seqItems? v) Q E s:=by
 induction h with
 |none h=>exact wpAny_pure (hq _)
 |seq T oc od xs n sl hl h=>exact wpAny_seqItems (X _ _ hl) rfl (hq _)
theorem Jc {K:Frag}(X:K.In s.heap)(h:A3 K g v)(hp:g.params=cZ){E:SP}(hq:Q (some #[.none,.none,.none,.none]) s):wpAny M A (seqItems? v) Q E s:=by
 have hb:(g.params==cZ)=true:=beq_iff_eq.mpr hp;induction h with
 |none h=>exact Bool.noConfusion (hb.symm.trans h)
 |seq T oc od xs n sl hl h=>exact wpAny_seqItems (X _ _ hl) rfl ((Array.toList_inj.mp (h hb):xs=#[.none,.none,.none,.none])▸hq)
inductive iD (G:Gx Γ)(fm:OV)(cs:List Cell)(s:Shared)(Q:VP):Result->Shared->Prop
 |mk (v:Value) (s':Shared) (h:bb G fm cs s VR Q v s'):iD G fm cs s Q (.ok (.ret v)) s'
abbrev Nr (Q:VP)(fl:Fl)(_:Loc)(H:Hp):Prop:=match fl with
 |.ret v=>Q v H
 |.next=>Q .none H
 |.brk=>False
set_option tactic.hygienic true in
theorem Nt:∀{ps:List Nm}{vs:List V},look x (pad ps vs)=some v->x∈ps:=by
 intro ps;induction ps with
 |nil=>exact λh=>ip rfl h
 |cons p ps ih=>
  have k:∀{w r vs},r=pad ps vs->(if p=x then some w else look x r)=some v->x∈p::ps:=by
   intro w r vs er h;by_cases e:p=x
   ·exact e▸.head _
   ·exact .tail _ (ih (er▸(if_neg e).symm.trans h))
  intro vs;induction vs with
  |nil=>exact k rfl
  |cons w ws _=>exact k rfl
theorem dK.three (h:dK vs cvs)(hl:vs.length=3):∃a b c x y z,vs=[a,b,c]/\cvs=[x,y,z]/\VR a x/\VR b y/\VR c z:=by
 induction vs using List.casesOn with
 |nil=>exact Nat.noConfusion hl
 |cons a vs=>induction vs using List.casesOn with
  |nil=>exact Nat.noConfusion (Nat.succ.inj hl)
  |cons b vs=>induction vs using List.casesOn with
   |nil=>exact Nat.noConfusion (Nat.succ.inj (Nat.succ.inj hl))
   |cons c vs=>
    have e:vs=[]:=List.length_eq_zero_iff.mp (Nat.succ.inj (Nat.succ.inj (Nat.succ.inj hl)));subst e;exact eO (P:=λcvs=>∃a' b' c' x y z,[a,b,c]=[a',b',c']/\cvs=[x,y,z]/\VR a' x/\VR b' y/\VR c' z) h λx l h1 h=>eO (P:=λl=>∃a' b' c' x' y z,[a,b,c]=[a',b',c']/\x::l=[x',y,z]/\VR a' x'/\VR b' y/\VR c' z) h λy l h2 h=>
     eO (P:=λl=>∃a' b' c' x' y' z,[a,b,c]=[a',b',c']/\x::y::l=[x',y',z]/\VR a' x'/\VR b' y'/\VR c' z) h λz l h3 h=>⟨a,b,c,x,y,z,rfl,jg (P:=λl=>x::y::z::l=[x,y,z]) h rfl,h1,h2,h3⟩
set_option tactic.hygienic true in
theorem GC (KO:gE Γ)(X:Γ.K.In s.heap)(g6:mL fd.params g=true)(g7:A3 Γ.K g fd.defaults)(g9:g.params.Nodup)(hv:dK vs cvs)
  (hlen:vs.length=g.params.length\/(vs.length=3/\g.params=cZ)):
  ∃(Ie:List V)(Nu:List Value),dK Ie Nu/\Ie.length=g.params.length/\pad g.params vs=pad g.params Ie/\BindsTo s fd ⟨cvs,[]⟩ ((g.params.map Nm.s).zip Nu):=by
 unfold mL at g6;simp only [Bool.and_eq_true,beq_iff_eq,List.isEmpty_iff,Option.isNone_iff_eq_none] at g6;refine cX g6 λdp p5=>?_;refine cX dp λdp p4=>?_;refine cX dp λdp p3=>?_;refine cX dp λp1 p2=>?_;have nd:(g.params.map Nm.s).Nodup:=List.Pairwise.map _ (λa b dw e=>dw (KO.inj _ _ e)) g9;have Yl:=hv.length;rcases hlen with hl|⟨hl,hp⟩
 ·refine ⟨vs,cvs,hv,hl,rfl,GA p1 p2 p3 p4 p5 nd (by simp only [List.length_map,<- Yl,hl]) λM A E Q hq=>Su X g7 hq⟩
 ·refine U0 (hv.three hl) λa1 a2 a3 c1 c2 c3 dp Zr v1 v2 v3=>?_
  subst dp;subst Zr;refine ⟨[a1,a2,a3,.none,.none,.none,.none],[c1,c2,c3,.none,.none,.none,.none],⟨v1,v2,v3,rfl,rfl,rfl,rfl,trivial⟩,by rw [hp];rfl,by rw [hp];rfl,?_⟩;exact hp.symm▸Dn p1 (hp▸p2) p3 p4 p5 rfl λM A E Q hq=>Jc X g7 hp hq
def o7.ZF (Γ:Cx)(k:Nat)(mt:Scope->List Internal.S->List Stmt->Prop)(g:Fn)(vs:List V)(body:List Stmt)(A:Around)(env:Env)(g':Heap)(cs:List Cell)(s:Shared)(H:Hp)(Z:Prop):Prop:=∀(G':Gx Γ)(n6:OV)(cs':List Cell)(ok:G'.Ok k)(loc:G'.loc=G'.L)(eA:G'.A=A)(ee:G'.env=env)(hm:mt G'.sc g.body body)(hA:At G' n6 cs' s H)(hL:aw G' n6 cs' (pad g.params vs))(h0:G'.h₀=g')(keep:dJ cs cs'),Z
def o7 (Γ k mt g vs body A env g' cs s H):=∀Z:Prop,o7.ZF Γ k mt g vs body A env g' cs s H Z->Z
theorem o7.mk {mt}:o7.ZF Γ k mt g vs body A env g' cs s H (o7 Γ k mt g vs body A env g' cs s H):=λG' n6 cs' ok loc eA ee hm hA hL h0 keep _ Z=>Z G' n6 cs' ok loc eA ee hm hA hL h0 keep
def vc.ZF (Γ:Cx)(k:Nat)(mt:Scope->List Internal.S->List Stmt->Prop)(a:Addr)(g:Fn)(vs:List V)(cvs:List Value)(A:Around)(outer:List Env)(base:Heap)(A₀:Around)(cs:List Cell)(s:Shared)(H:Hp)(z:Prop):Prop:=∀(fo:Obj)(name:Str)(qual:Str)(params:Arguments)(body:List Stmt)(scope:Scope)(dV:Value)(kV:Value)(doc:Value)(pm:Value)(ny:Value)(ct:Value)(an:Option Addr)(binds:List (Str×Value))(h1:s.heap.get? a=some fo)(h2:fo.data=.func (fnX name qual params body scope [] dV kV doc pm an ny ct))(h3:s.heap.CodeRec ny qual)(h4:BindsTo s (fnX name qual params body scope [] dV kV doc pm an ny ct) ⟨cvs,[]⟩ binds)(h5:∀n,∀x∈binds,scope.names.lookup x.1=some .local\/(scope.names.lookup x.1=some .cell/\((cellsFrom n scope.names []).lookup x.1).isSome=true)) (h6:((cellsFrom 0 scope.names []).map (·.1)).Nodup) (h7:scope.isCoroutine=false) (h8:scope.isGenerator=false) (h9:scope.kind=.function) (run:∀g' L' h₁ tk cells,Fr g' L' h₁ (bindL (envOfC qual scope L' a ny).kindOf binds λZ=>none)->News g' L' h₁ (cells++nw cs)->CellsAre (bindC (envOfC qual scope L' a ny).kindOf binds λZ=>none) (cellsFrom (L'+1) scope.names []) cells->Below A₀ base outer g'->Γ.K.In g'->TopRead Γ.p Γ.loose Γ.mg Γ.mb g'->Γ.X.base.StaysIn g'->(∀p∈nw cs,p.1<L')->o7 Γ k mt g vs body (A.deeper (envOfC qual scope L' a ny)) (envOfC qual scope L' a ny) g' cs {s with heap:=h₁,toks:=tk} H),z
def vc (Γ k mt a g vs cvs A outer base A₀ cs s H):=∀Z:Prop,vc.ZF Γ k mt a g vs cvs A outer base A₀ cs s H Z->Z
theorem vc.mk {mt}:vc.ZF Γ k mt a g vs cvs A outer base A₀ cs s H (vc Γ k mt a g vs cvs A outer base A₀ cs s H):=λfo name qual params body scope dV kV doc pm ny ct an binds h1 h2 h3 h4 h5 h6 h7 h8 h9 run _ Z=>Z fo name qual params body scope dV kV doc pm ny ct an binds h1 h2 h3 h4 h5 h6 h7 h8 h9 run
set_option tactic.hygienic true in
theorem xy (KO:gE Γ)(hh:A.handled=none)(X:Γ.K.In s.heap)(GD:A.frames=some outer)(Zs:A.depth+1+k<recursionLimit)(hun:A.units+3+4*k+100<cLine){mt:Scope->List Internal.S->List Stmt->Prop}
  (hg:t9 mt Γ.K a g)(hv:dK vs cvs)(hlen:vs.length=g.params.length\/(vs.length=3/\g.params=cZ))(R:Rep Γ.X cs H):vc Γ k mt a g vs cvs A outer base A₀ cs s H:=by
 refine hg _ λod Sr name qual params body scope dV kV doc pm an ny ct VK g5 g6 g7 g8 g9 Ss=>?_;unfold sJ at g8;simp only [Bool.and_eq_true,beq_iff_eq,decide_eq_true_eq,Bool.not_eq_true'] at g8;refine cX g8 λdp q5=>?_;refine cX dp λdp q4=>?_;refine cX dp λdp q3=>?_;refine cX dp λq1 q2=>?_;refine Ae (GC (fd:=fnX name qual params body scope [] dV kV doc pm an ny ct) KO X g6 g7 g9 hv hlen) λIe Nu GF L8 Zt hB=>?_;refine (.mk _ name qual params body scope dV kV doc pm ny ct an _ (X _ _ VK) rfl (codeRec_of X g5) hB ?_ q2 q3 q4 q5 ?_)
 ·intro n x hx
  refine aQ (List.mem_map.mp (List.of_mem_zip hx).1) λy hy e=>?_;rcases Bool.or_eq_true_iff.mp (List.all_eq_true.mp q1 y hy) with z|z
  ·left;rw [<- e];exact beq_iff_eq.mp z
  ·right
   rw [<- e];have z':=beq_iff_eq.mp z;exact ⟨z',cellsFrom_some _ _ _ (.inl (lookup_mem z'))⟩
 ·intro g' L' h₁ tk cells F1 N1 CA BG XK XT XB lo
  have addr:=(Dq CA);obtain ⟨a1,a2⟩:=u9 scope.names (L'+1) [] .nil (λp hp=>by contradiction);have hnw:nw (cells.map (λp=>((none,p.1,p.2):Cell))++cs)=cells++nw cs:=by
   refine (?_:((cells.map _++cs).map _)=_);rw [List.map_append,List.map_map];congr 1;exact List.map_id' _ |>.symm▸by simp [Function.comp_def]
  refine (.mk ⟨A.deeper (envOfC qual scope L' a ny),g',L',scope,L',cellsFrom (L'+1) scope.names [],qual++".<locals>.",some a,ny,envOfC qual scope L' a ny,outer,base,A₀⟩
   (bindL (envOfC qual scope L' a ny).kindOf ((g.params.map Nm.s).zip Nu) λZ=>none) (cells.map (λp=>(none,p.1,p.2))++cs)
   (.mk hh XK XT BG (by show (A.frames.map _)=_;rw [GD];rfl) rfl q5 q5 (λx hx=>cellsFrom_some _ _ _ (.inl (lookup_mem hx))) XB Zs hun) rfl rfl rfl Ss (.mk F1 (by simp only [hnw];exact N1) (.mk ?_ (λb o hb=>(R.rep b o hb).more λc hc=>List.mem_append_right _ hc))) ?_ rfl (λc hc Z=>List.mem_append_right _ hc))
  ·refine (?_:((cells.map (λp=>((none,p.1,p.2):Cell))++cs).map (·.2.1)).Nodup)
   rw [List.map_append,List.map_map,List.nodup_append];have e1:cells.map ((λc:Cell=>c.2.1)∘λp=>((none,p.1,p.2):Cell))=cells.map (·.1):=rfl;refine (e1)▸(addr)▸?_;refine ⟨a1,R.nd,λx hx y hy e=>?_⟩;refine aQ (List.mem_map.mp hx) λp hp dp=>?_;subst dp;refine aQ (List.mem_map.mp hy) λc hc dp=>?_;subst dp;rcases a2 p hp with q|q
   ·cases q
   ·have e1:p.2=c.2.1:=e
    have e2:c.2.1<L':=lo _ (bO hc);have e3:L'+1<=p.2:=q;simp only [e1] at e3;exact absurd (Nat.lt_of_lt_of_le e2 (Nat.le_of_succ_le e3)) (Nat.lt_irrefl _)
  ·intro x v hx Qt
   replace Qt:=(Zt)▸Qt;refine (Ja KO.inj (envOfC qual scope L' a ny).kindOf (λZ=>none) GF L8 g9 Qt) _ λcv r1 r2 r3=>?_;rcases Bool.or_eq_true_iff.mp (List.all_eq_true.mp q1 x (Nt Qt)) with z|z
   ·have z':scope.names.lookup x.s=some .local:=beq_iff_eq.mp z
    exact .loc rfl z' cv (r2 z') r1
   ·have z':scope.names.lookup x.s=some .cell:=beq_iff_eq.mp z
    have hs:=cellsFrom_some scope.names (L'+1) [] (.inl (lookup_mem z'));obtain ⟨c,hc⟩:=Option.isSome_iff_exists.mp hs;refine aQ (I9 CA (lookup_mem hc)) λo ho hd=>?_;rw [r3 (by show scope.names.lookup x.s≠some .local;rw [z'];intro q;contradiction)] at hd;exact .cell z' c o cv hc (List.mem_append_left _ (List.mem_map.mpr ⟨(c,o),ho,rfl⟩)) hd r1
theorem xA (KO:gE Γ)(O:G.Ok (k+1)){mt:Scope->List Internal.S->List Stmt->Prop}(hg:t9 mt Γ.K a g)(hv:dK vs cvs)
  (hlen:vs.length=g.params.length\/(vs.length=3/\g.params=cZ))(hA:At G fm cs s H):vc Γ k mt a g vs cvs G.A (G.MX::G.outer) G.base G.A cs s H:=
 xy KO O.hh (O.nu.keeps hA.F.keep) O.fr (by have:=O.depth;omega) (by have:=O.units;omega) hg hv hlen hA.R
theorem A5 {G':Gx Γ}(keep:dJ cs cs')(z:dj G' cs' s1 (Nr Q) fl s')(e0:cO s s1):LeaveK G.h₀ G.L fm G'.h₀ (iD G fm cs s Q) (match (generalizing:=false) fl with|.ret v=>v|_=>.none) s':=by
 obtain ⟨z1,fm2,kO,H2,m2,af,z2,z3,z4,z5,z6⟩:=z;refine leaveK_ z2.F z2.N λF N=>?_;have hS:cO s s':=e0.trans z1;have hK:dJ cs kO:=λc hc hn=>z3 c (keep c hc hn) hn;induction z5 with
 |next=>exact .mk _ _ (.mk (av:=.none) hS (.mk F N z2.R) hK rfl z6)
 |brk=>exact z6.elim
 |ret h=>exact .mk _ _ (.mk hS (.mk F N z2.R) hK h z6)
theorem EF (KO:gE Γ)(O:G.Ok (k+1))(IH:VJ Γ k C)(hg:Dp Γ.K a g)(hv:dK vs cvs)(h:nc C g vs H Q)(hA:At G fm cs s H):
  codeAny (model Γ.prog Γ.w) G.A (.call (.ref a) ⟨cvs,[]⟩) (iD G fm cs s Q) s:=by
 refine (xA KO O hg hv h.1 hA) _ λfo name qual params body scope dV kV doc pm ny ct an binds h1 h2 h3 h4 h5 h6 h7 h8 h9 run=>?_;refine callX_cells O.below hA.F hA.N O.top.nolimit O.fr O.ff O.fk h1 h2 h3 (by have:=O.depth;omega) h4 h5 h6 ?_ h7 h8 h9;intro g' L' h₁ tk cells _ F1 N1 CA BG st lo;refine (run g' L' h₁ tk cells F1 N1 CA BG (O.nu.keeps st) (O.top.keeps st) (λb o e=>st b o (O.ro b o e)) lo) _ λG' n6 cs' O' e1 e2 e3 e4 bJ ef q3 kp=>?_;obtain rfl:=q3;have z:wpAny _ _ _ _ _ _:=IH G' O' e1 _ _ _ _ _ e4 h.2 _ _ _ bJ ef;rw [e2,e3] at z;exact wpAny_mono z (λfl s' q=>A5 (G:=G) (fm:=fm) (s:=s) kp q (.mk rfl rfl rfl)) λZ Z q=>q.elim
end
end
def ju.ZF (Γ:Cx)(k:Nat)(C:Internal.Calls)(Z:Prop):Prop:=∀(fn:∀(G:Gx Γ),G.Ok k->∀f vs cvs H Q,nh f=false->dK vs cvs->C.fn f vs H Q->∀fm cs s,At G fm cs s H->codeAny (model Γ.prog Γ.w) G.A (.call (.ref (Γ.X.fa f)) ⟨cvs,[]⟩) (iD G fm cs s Q) s) (me:∀(G:Gx Γ),G.Ok k->∀c n vs cvs H Q,lR c n=false->dK vs cvs->C.aB c n vs H Q->∀fm cs s,At G fm cs s H->codeAny (model Γ.prog Γ.w) G.A (.call (.ref (Γ.X.ma c n)) ⟨cvs,[]⟩) (iD G fm cs s Q) s),Z
def ju (Γ k C):=∀Z:Prop,ju.ZF Γ k C Z->Z
theorem ju.mk:ju.ZF Γ k C (ju Γ k C):=λfn me _ Z=>Z fn me
def ju.fn (Z:ju Γ k C):=Z _ λfn me=>fn
def ju.me (Z:ju Γ k C):=Z _ λfn me=>me
theorem gf {mt:Scope->List Internal.S->List Stmt->Prop}{K:Frag}(h:t9 mt K a g):keepIn K (.ref a)=true/\isFn K (.ref a)=true:=by
 refine h _ λod Sr name qual params b scope dV kV doc pm an ny ct hl g5 g6 g7 g8 g9 Ss=>?_;exact ⟨by simp only [keepIn,hl],by unfold isFn typeIn;simp only [hl];rfl⟩
theorem vf (h:pY c=false):lR c .bI=false:=by unfold lR;rw [h];rfl
theorem A6 (h:tJ n=false)(h2:(n==.bI)=false):lR c n=false:=by unfold lR;simp only [h,h2,Bool.and_false];rfl
section
variable {G:Gx Γ}
theorem Gx.Ok.mono (O:G.Ok k)(h:j<=k):G.Ok j:=
 O _ λhh nu top below fr ff fk kind cells ro depth units=>.mk hh nu top below fr ff fk kind cells ro (by omega) (by omega)
theorem mM (bp:cE Γ k r)(O:G.Ok k)(hk:keepIn Γ.K f=true)(hm:bZ (ME n G.sc) es ps)(h:nH r es m H Q1)(hA:At G fm cs s H)(hL:aw G fm cs m)
  (next:∀cs' s' H' cM vs,cO s s'->At G fm cs' s' H'->aw G fm cs' m->dJ cs cs'->dK cM vs->Q1 cM H'->wG G (call f (first++vs)) P nE s'):
  wG G (callWith pos f first (backTo pos (starEach ps G.env)) []) P nE s:=by
 induction hm with
 |nil=>exact callWith_K0 (O.nu.keeps hA.F.keep) hk (next _ _ _ [] [] .refl hA hL .refl trivial h)
 |cons h1 h2=>exact callWith_K O.nu hk (AO (pos:=pos) bp O (.cons h1 h2) h hA hL λcs' s' H' cM vs hS bJ ef hK hv hl h'=>⟨O.nu.keeps bJ.F.keep,next _ _ _ cM vs hS bJ ef hK hv h'⟩) (notStar h1) (j1 h2)
theorem A7 (hS:cO s ba)(hK:dJ cs uT)(h:codeAny (model Γ.prog Γ.w) G.A (.call f ⟨vs,[]⟩) (iD G fm uT ba Q) ba):wG G (call f vs) (bb G fm cs s VR Q) nE ba:=
 wpAny_call (codeAny_mono h λr s2 z=>by induction z with|mk v s2 z=>exact z.weak hS hK)
theorem Jd (FO:jt Γ)(bp:cE Γ k r)(pP:ju Γ k C)(O:G.Ok k)(hp:nh f=false)(hg:cq G.sc f.s=true)(hd:yP f=false)(hm:bZ (ME n G.sc) es ps)
  (h:(nX f).isSome=true/\nH r es m H λvs H=>C.fn f vs H Q) (hA:At G fm cs s H) (hL:aw G fm cs m):
  wG G (eval (.Call (.Name f.s p) ps [] pos) G.env) (bb G fm cs s VR Q) nE s:=
by
 obtain ⟨g,Cv⟩:=Option.isSome_iff_exists.mp h.1;have hf:=FO.fn _ _ Cv hp;exact PyProof.Rows.Call_ (oY O hg hd hf.1 hA (mM bp O (gf hf.2).1 hm h.2 hA hL λcs' s' H' cM vs hS bJ ef hK hv h'=>A7 hS hK (pP.fn G O f cM vs H' Q hp hv h' fm cs' s' bJ)))
set_option tactic.hygienic true in
theorem At.made (hA:At G fm cs s H)(F':Fr G.h₀ G.L h' fm)(N':News G.h₀ G.L h' ((x,instObj (Γ.X.cls c) dx)::(dx,emptyDict)::nw cs))(lo:∀p∈nw cs,p.1<dx) (fX:dx<x) (hc:d5 c=true):
  At G fm ((some x,x,instObj (Γ.X.cls c) dx)::(some x,dx,emptyDict)::cs) {s with heap:=h'} (H.upd x (.inst c [])):=by
 refine .mk F' N' ?_;have dw:∀q∈cs,q.2.1≠dx:=λq hq e=>by have z:=lo _ (bO hq);rw [e] at z;exact absurd z (Nat.lt_irrefl _)
 have Zu:∀q∈cs,q.2.1≠x:=λq hq e=>by have z:=lo _ (bO hq);rw [e] at z;exact absurd (Nat.lt_trans z fX) (Nat.lt_irrefl _)
 refine (.mk ?_ (λb o hb=>?_))
 ·simp only [List.map_cons,List.map_cons,List.nodup_cons,List.nodup_cons]
  refine ⟨λq=>?_,λq=>?_,hA.R.nd⟩
  ·rcases List.mem_cons.mp q with e|q
   ·exact absurd e (Nat.ne_of_gt fX)
   ·refine aQ (List.mem_map.mp q) λz hz e=>?_
    exact Zu z hz e
  ·refine aQ (List.mem_map.mp q) λz hz e=>?_
   exact dw z hz e
 ·unfold Hp.upd at hb
  split at hb
  ·rename_i e;subst e;cases hb
   exact (.mk dx [] 0 (.head _) (.tail _ (.head _)) trivial hc (λZ hp=>by contradiction))
  ·exact (hA.R.rep b o hb).more λc hc=>.tail _ (.tail _ hc)
theorem Dt (h:d5 c=true):(meths c .bI).isSome=true:=by
 have z:∀i:Fin 168,(!d5 ⟨i⟩||(meths ⟨i⟩ .bI).isSome)=true:=by decide+kernel
 have:=z c.i;rw [show (⟨c.i⟩:Nm)=c from rfl,h] at this;exact this
theorem Gx.Ok.under (O:G.Ok (k+1))(x:Addr)(cvs:List Value):Gx.Ok ({G with A:=G.A.under (.builtin "type.__call__" ⟨.ref x::cvs,[]⟩)}:Gx Γ) k:=
 O _ λhh nu top below fr ff fk kind cells ro depth units=>.mk hh nu top below fr ff fk kind cells ro (by refine (?_:G.A.depth+1+k<recursionLimit);omega) (by refine (?_:G.A.units+1+4*k+100<cLine);omega)
theorem made_post (z:iD ({G with A:=A}:Gx Γ) fm ((some x,x,instObj (Γ.X.cls c) dx)::(some x,dx,emptyDict)::cs) {s with heap:=h'} (λv H=>v=.none/\Q (.ref x) H) rr s2):
  rr=.ok (.ret .none)/\bb G fm cs s VR Q (.ref x) s2:=by
 induction z with|mk v s2 z=>
 obtain ⟨z1,kO,H2,av,z2,z3,z4,z5,z6⟩:=z;subst z5;rw [show v=_ from z4];exact ⟨rfl,cO.of z1 rfl rfl,kO,H2,.ref x,(.mk z2.F z2.N z2.R),λc hc hn=>z3 c (.tail _ (.tail _ hc)) hn,rfl,z6⟩
theorem Je (KO:gE Γ)(FO:jt Γ)(pP:ju Γ k C)(O:G.Ok (k+1))(hp:pY c=false)(hc:d5 c=true)(hv:dK vs cvs)(h:∀a,H a=none->C.aB c .bI (.ref a::vs) (H.upd a (.inst c [])) λv H=>v=.none/\Q (.ref a) H)
  (hA:At G fm cs s H):wG G (call (.ref (Γ.X.cls c)) cvs) (bb G fm cs s VR Q) nE s:=by
 obtain ⟨g,hg⟩:=Option.isSome_iff_exists.mp (Dt hc);obtain ⟨f1,f2⟩:=FO.me _ _ _ hg (vf hp);refine wpAny_call (make_K hA.F hA.N (O.nu.keeps hA.F.keep) (FO.made _ hc) f1 (beq_iff_eq.mp (gf f2).2) λx dx h' F' N' lo fX=>?_);have hx:H x=none:=uW O hA (λc hc e=>by have q:=lo _ (bO hc);rw [e] at q;exact absurd (Nat.lt_trans q fX) (Nat.lt_irrefl _)) (N'.fresh (.head _));have z:=hA.made F' N' lo fX hc;refine codeAny_mono (pP.me _ (O.under (Γ.X.cls c) cvs) c .bI (.ref x::vs) (.ref x::cvs) _ _ (vf hp) ⟨rfl,hv⟩ (h x hx) fm _ _ (.mk z.F z.N z.R)) λrr s2 z=>?_;obtain ⟨e,y⟩:=made_post z;subst e;exact ⟨rfl,y⟩
theorem Sv (KO:gE Γ)(FO:jt Γ)(CO:i6 Γ)(bp:cE Γ (k+1) r)(pP:ju Γ k C)(O:G.Ok (k+1))(hp:pY c=false)(hg:cq G.sc c.s=true)(hd:yP c=false)(hm:bZ (ME n G.sc) es ps)
  (h:d5 c=true/\nH r es m H λvs H=>∀a,H a=none->C.aB c .bI (.ref a::vs) (H.upd a (.inst c [])) λv H=>v=.none/\Q (.ref a) H) (hA:At G fm cs s H) (hL:aw G fm cs m):
  wG G (eval (.Call (.Name c.s p) ps [] pos) G.env) (bb G fm cs s VR Q) nE s:=
 PyProof.Rows.Call_ (uZ CO O hA hg hd (by rw [h.1];rfl) (mM bp O (FO.special _ h.1) hm h.2 hA hL λcs' s' H' cM vs hS bJ ef hK hv h'=>
  wpAny_mono (Je KO FO pP O hp h.1 hv h' bJ) (λZ Z z=>z.weak hS hK) λZ Z x=>x))
theorem A8 {nm:Nm}(rG:(p.endLine==pos.line)=true)(hlen:ps.length<30)(hv:NA ov)(hm:bZ (ME n G.sc) es ps):
  eval (.Call (.Attribute ov nm.s p) ps [] pos) G.env=(do
   let VL <- eval ov G.env
   standAt p.atName
   let (f,first) <- holding [VL] (getMethod VL nm.s (do return (<- importBound ov G.env).getD true))
   callWith pos f first (backTo pos (starEach ps G.env)) []):=by
 have VM:methodCallForm ps.length (backTo pos (starEach ps G.env)) []=true:=by
  have e1:(backTo pos (starEach ps G.env)).all (λx=>!x.1)=true:=by
   simp only [List.all_eq_not_any_not,Bool.not_eq_true']
   simpa using j1 (pos:=pos) (env:=G.env) hm
  unfold methodCallForm;rw [e1];exact decide_eq_true hlen
 have base:attributeBase ov nm.s G.env (eval ov G.env)=eval ov G.env:=by induction hv<;>rfl
 simp only [arm_eval_Call,base];refine congrArg (eval ov G.env >>= ·) (funext λVL=>congrArg (standAt p.atName >>= ·) (funext λu=>?_));unfold methodCall;simp only [show backToKw pos (keywordEach [] G.env)=[] from rfl,List.length_nil,Nat.add_zero,VM];refine congrArg (holding [VL] (getMethod VL nm.s (do return (<- importBound ov G.env).getD true)) >>= ·) (funext λfx=>?_);unfold methodCallPos;rw [rG];rfl
theorem xB (KO:gE Γ)(O:G.Ok k){mt:Scope->List Internal.S->List Stmt->Prop}(hA:At G fm cs s H)(hH:H a=some (.inst c fs))(hc:d5 c=true)(hl:look nm fs=none)
  (f1:findIn Γ.K (.ref (Γ.X.cls c)) nm.s=some (some (.ref (Γ.X.ma c nm))))(f2:t9 mt Γ.K (Γ.X.ma c nm) g)(h:P (.ref (Γ.X.ma c nm),[.ref a]) s):wG G (getMethod (.ref a) nm.s pl) P nE s:=by
 refine (i4.inst hA (hA.R.rep _ _ hH)) _ λdx es' n' I hf hd hi _ hk=>?_;have gg:=(yS KO.inj (x:=nm) hf).nn hl;exact method_inst hA.F O.nu I (KO.pg _ hc) f1 (gf f2).2 gg h
theorem Nv (KO:gE Γ)(FO:jt Γ)(bp:cE Γ k r)(pP:ju Γ k C)(O:G.Ok k)(hp:tJ nm=false)(FW:(nm==.bI)=false)(rG:(p.endLine==pos.line)=true)(hlen:ps.length<30)(hv:NA ov)(ho:ME n G.sc o ov)(hm:bZ (ME n G.sc) es ps)
  (h:r.E o m H λv H=>ki H (λnm v kd=>sD kd nm=true/\nH r es m H λvs H=>pX C H kd v nm vs Q) nm v) (hA:At G fm cs s H) (hL:aw G fm cs m):
  wG G (eval (.Call (.Attribute ov nm.s p) ps [] pos) G.env) (bb G fm cs s VR Q) nE s:=by
 refine MethodCall_ (eU bp O ho h hA hL λcs' s' H' av cv hS bJ ef hK hv h'=>?_) (A8 rG hlen hv hm);refine wpAny_mono (Q:=λfx s2=>wG G (callWith pos fx.1 fx.2 (backTo pos (starEach ps G.env)) []) (bb G fm cs' s' VR Q) nE s2) ?_ (λfx s2 z=>wpAny_mono z (λZ Z z=>z.weak hS hK) λZ Z x=>x) λZ Z x=>x;induction h' with
 |inst nm a c fs hH hc hl h'=>
  rw [show cv=_ from hv];obtain ⟨g,hg⟩:=Option.isSome_iff_exists.mp h'.1;refine cX (FO.me _ _ _ hg (A6 hp FW)) λf1 f2=>?_;exact xB KO O bJ hH hc hl f1 f2 (mM bp O (gf f2).1 hm h'.2 bJ ef λkO s2 H2 cM vs Ai mK Sn AY ED h4=>A7 Ai AY (pP.me G O _ nm (.ref a::cM) (.ref a::vs) H2 Q (A6 hp FW) ⟨rfl,ED⟩ h4 fm kO s2 mK))
 |append a xs hx h'=>rw [show cv=_ from hv];exact sI bp O hm hx PySem.F.slot_list_append PySem.F.type_list_append h'.2 bJ ef λcs' s' H' cM vs bJ j0 h'=>I0 bJ j0 h'
 |extend a xs hx h'=>rw [show cv=_ from hv];exact sI bp O hm hx PySem.F.slot_list_extend PySem.F.type_list_extend h'.2 bJ ef λcs' s' H' cM vs bJ j0 h'=>I2 bJ j0 h'
 |pop a xs hx h'=>rw [show cv=_ from hv];exact sI bp O hm hx PySem.F.slot_list_pop PySem.F.type_list_pop h'.2 bJ ef λcs' s' H' cM vs bJ j0 h'=>VF bJ j0 h'
 |get a es hx h'=>rw [show cv=_ from hv];exact Gv bp O hm hx h'.2 bJ ef
end
section
set_option backward.match.sparseCases true
theorem i4.Nx (h:i4 X (pre++(none,x,ob)::post) b o):i4 X (pre++(none,x,ob')::post) b o:=by
 have k:∀z o',(some b,z,o')∈pre++(none,x,ob)::post->(some b,z,o')∈pre++(none,x,ob')::post:=λz o' hm=>
  n3 hm (λe=>by cases congrArg Prod.fst e)
 cases o with
 |inst c fs=>refine h _ λdx es n h1 h2 h3 h4 h5=>?_;exact (.mk dx es n (k _ _ h1) (k _ _ h2) h3 h4 h5)
 |list xs=>refine h _ λvs n h1 h2=>?_;exact (.mk vs n (k _ _ h1) h2)
 |tuple xs=>refine h _ λvs n h1 h2=>?_;exact (.mk vs n (k _ _ h1) h2)
 |dict ds=>refine h _ λvs n h1 h2 h3 h4=>?_;exact (.mk vs n (k _ _ h1) h2 h3 h4)
 |bytes=>refine h _ λo h1=>?_;exact (.mk o (k _ _ h1))
 |ro xs=>exact h
theorem o8:∀{l:List Cell},(l.map (·.2.1)).Nodup->∀c∈l,∀d∈l,c.2.1=d.2.1->c=d:=by
 intro l;induction l with
 |nil=>intro _ c hc;contradiction
 |cons e l ih=>
  intro nd c hc d hd q;rw [List.map_cons,List.nodup_cons] at nd;rcases List.mem_cons.mp hc with h1|h1
  ·rcases List.mem_cons.mp hd with h2|h2
   ·simp only [h1,h2]
   ·exact absurd (show e.2.1∈l.map (λc:Cell=>c.2.1) from List.mem_map.mpr ⟨d,h2,by rw [<- q,h1]⟩) nd.1
  ·rcases List.mem_cons.mp hd with h2|h2
   ·exact absurd (show e.2.1∈l.map (λc:Cell=>c.2.1) from List.mem_map.mpr ⟨c,h1,by rw [q,h2]⟩) nd.1
   ·exact ih nd.2 c h1 d h2 q
theorem i4.drop (nd:(cs.map (·.2.1)).Nodup)(hx:(none,x,ob)∈cs)(h:i4 X cs b o):i4 X (cs.filter λc=>decide (c.2.1≠x)) b o:=by
 have k:∀z o',(some b,z,o')∈cs->(some b,z,o')∈cs.filter λc=>decide (c.2.1≠x):=λz o' hm=>by
  refine List.mem_filter.mpr ⟨hm,decide_eq_true λe=>?_⟩;cases congrArg Prod.fst (o8 nd _ hm _ hx e)
 cases o with
 |inst c fs=>refine h _ λdx es n h1 h2 h3 h4 h5=>?_;exact (.mk dx es n (k _ _ h1) (k _ _ h2) h3 h4 h5)
 |list xs=>refine h _ λvs n h1 h2=>?_;exact (.mk vs n (k _ _ h1) h2)
 |tuple xs=>refine h _ λvs n h1 h2=>?_;exact (.mk vs n (k _ _ h1) h2)
 |dict ds=>refine h _ λvs n h1 h2 h3 h4=>?_;exact (.mk vs n (k _ _ h1) h2 h3 h4)
 |bytes=>refine h _ λo h1=>?_;exact (.mk o (k _ _ h1))
 |ro xs=>exact h
def noOwn.ZF (o:Obj)(Z:Prop):Prop:=∀(n:String)(vs:Array Value)(h1:o.cls=.type n)(h2:o.data=.fields vs)(h3:(["enumerate","zip","dict_itemiterator","dict_reverseitemiterator","odict_iterator","itertools.zip_longest","itertools.pairwise"]:List String).contains n=false),Z
def noOwn (o):=∀Z:Prop,noOwn.ZF o Z->Z
theorem noOwn.mk:noOwn.ZF o (noOwn o):=λn vs h1 h2 h3 _ Z=>Z n vs h1 h2 h3
def kl.ZF {Γ:Cx}(G:Gx Γ)(src:Src)(I:Addr)(Sh:Nat->Obj->Prop)(Z:Prop):Prop:=∀(self:∀(A:Around){i:Nat}{o:Obj}{s:Shared}{P E:SP},s.heap.get? I=some o->Sh i o->P (.ref I) s->wpAny (model Γ.prog Γ.w) A (pyIter (.ref I)) P E s) (go:∀i o,Sh i o->noOwn o) (item:∀(A:Around){i:Nat}{v:V}{fm:OV}{cs:List Cell}{s:Shared}{H:Hp}{o:Obj}{P:Option Value->Shared->Prop}{E:SP},A.handled=none->At G fm cs s H->src.ok H->(none,I,o)∈cs->Sh i o->src.items[i]?=some v->(∀cv h' tk cs' o',VR v cv->At G fm cs' {s with heap:=h',toks:=tk} H->(none,I,o')∈cs'->Sh (i+1) o'->(∀c∈cs,c.2.1≠I->c∈cs')->P (some cv) {s with heap:=h',toks:=tk})->wpAny (model Γ.prog Γ.w) A (pyNext (.ref I)) P E s) (done:∀(A:Around){i:Nat}{fm:OV}{cs:List Cell}{s:Shared}{H:Hp}{o:Obj}{P:Option Value->Shared->Prop}{E:SP},A.handled=none->At G fm cs s H->src.ok H->(none,I,o)∈cs->Sh i o->i=src.items.length->(∀h' cs',At G fm cs' {s with heap:=h'} H->(∀c∈cs,c.2.1≠I->c∈cs')->P none {s with heap:=h'})->wpAny (model Γ.prog Γ.w) A (pyNext (.ref I)) P E s),Z
def kl {Γ}(G src I Sh):=∀Z:Prop,kl.ZF (Γ:=Γ) G src I Sh Z->Z
theorem kl.mk:kl.ZF (Γ:=Γ) G src I Sh (kl (Γ:=Γ) G src I Sh):=λself go item done _ Z=>Z self go item done
def kl.self (Z:kl (Γ:=Γ) G src I Sh):=Z _ λself go item done=>self
def kl.go (Z:kl (Γ:=Γ) G src I Sh):=Z _ λself go item done=>go
def kl.item (Z:kl (Γ:=Γ) G src I Sh):=Z _ λself go item done=>item
def kl.done (Z:kl (Γ:=Γ) G src I Sh):=Z _ λself go item done=>done
section
variable {G:Gx Γ}
def sL.ZF (G:Gx Γ)(fm:OV)(cs:List Cell)(s:Shared)(H:Hp)(I:Addr)(o':Obj)(Z:Prop):Prop:=∀(cs':List Cell)(A:At G fm cs' s H)(m:(none,I,o')∈cs')(k:∀c∈cs,c.2.1≠I->c∈cs'),Z
def sL (G:Gx Γ)(fm cs s H I o'):=∀Z:Prop,sL.ZF G fm cs s H I o' Z->Z
theorem sL.mk:sL.ZF G fm cs s H I o' (sL G fm cs s H I o'):=λcs' A m k _ Z=>Z cs' A m k
def o9.ZF (G:Gx Γ)(fm:OV)(cs:List Cell)(s:Shared)(H:Hp)(I:Addr)(Z:Prop):Prop:=∀(cs':List Cell)(A:At G fm cs' s H)(k:∀c∈cs,c.2.1≠I->c∈cs'),Z
def o9 (G:Gx Γ)(fm cs s H I):=∀Z:Prop,o9.ZF G fm cs s H I Z->Z
theorem o9.mk:o9.ZF G fm cs s H I (o9 G fm cs s H I):=λcs' A k _ Z=>Z cs' A k
theorem At.bump (hA:At G fm cs s H)(hm:(none,I,o)∈cs)(hs:Heap.SameBut I s.heap h')(VN:h'.get? I=some o')(tk:Nat):sL G fm cs {s with heap:=h',toks:=tk} H I o':=by
 refine tF (List.append_of_mem hm) λpre post e=>?_;subst e;have nd:=hA.R.nd;have hN:News G.h₀ G.L s.heap (nw pre++(I,o)::nw post):=by
  have:=hA.N;unfold nw at this ⊢
  simpa using this
 have hI:=hN (I,o) (List.mem_append_right _ (.head _));rw [List.map_append,List.map_cons,List.nodup_append] at nd;have h1:∀p∈nw pre,p.1≠I:=λp hp q=>by
  obtain ⟨c,hc,rfl⟩:=List.mem_map.mp hp;exact nd.2.2 _ (List.mem_map_of_mem (f:=λc:Cell=>c.2.1) hc) _ (.head _) q
 have h2:∀p∈nw post,p.1≠I:=λp hp q=>by
  refine aQ (List.mem_map.mp hp) λc hc dp=>?_;subst dp;exact (List.nodup_cons.mp nd.2.1).1 (List.mem_map.mpr ⟨c,hc,q⟩)
 have N':=hN.setIn h1 h2 hs VN;refine (.mk (pre++(none,I,o')::post) (.mk (hA.F.change hs hI.2.1 hI.2.2) ?_ (.mk ?_ (λb ob hb=>(hA.R.rep b ob hb).Nx))) (List.mem_append_right _ (.head _)) (λc hc dw=>n3 hc λq=>dw (by rw [q])))
 ·unfold nw at N' ⊢
  simpa using N'
 ·have:=hA.R.nd
  simpa using this
theorem At.drop (hA:At G fm cs s H)(hm:(none,I,o)∈cs)(hk:Heap.ExtBut I s.heap h'):o9 G fm cs {s with heap:=h'} H I:=by
 have hI:=hA.N _ (bO hm);have wz:∀b o,b∉[I]->s.heap.get? b=some o->h'.get? b=some o:=λb o hb e=>hk b o (λq=>hb (by simp [q])) e;refine (.mk (cs.filter λc=>decide (c.2.1≠I)) (.mk (LCg.fr_but hA.F wz (Ne.symm hI.2.1) hI.2.2) ?_ (.mk ?_ (λb ob hb=>(hA.R.rep b ob hb).drop hA.R.nd hm))) (λc hc dw=>List.mem_filter.mpr ⟨hc,decide_eq_true dw⟩))
 ·refine LCg.news_but (λp hp=>hA.N p ?_) wz λp hp=>?_
  ·obtain ⟨c,hc,rfl⟩:=List.mem_map.mp hp
   exact bO (List.mem_filter.mp hc).1
  ·obtain ⟨c,hc,rfl⟩:=List.mem_map.mp hp
   exact of_decide_eq_true (List.mem_filter.mp hc).2
 ·exact List.Sublist.nodup (List.Sublist.map _ List.filter_sublist) hA.R.nd
def Zv (l:Addr)(i:Nat)(o:Obj):Prop:=o.cls=.type "list_iterator"/\o.data=.fields #[.ref l,.int i 0]
def ShT (l:Addr)(i:Nat)(o:Obj):Prop:=o.cls=.type "tuple_iterator"/\o.data=.fields #[.ref l,.int i 0]
def ShR (lo:Int)(n:Nat)(i:Nat)(o:Obj):Prop:=o={cls:=.type "range_iterator",dict:=none,data:=.fields #[rawInt (lo+i),rawInt ((n:Int) - i),rawInt 1],slots:=#[]}
theorem Sw:kl G (.seq l (.list xs) xs) I (Zv l):=
 .mk (λA i o s P E ho h hP=>wpAny_pyIter_listiter (i:=i) ⟨o,ho,h⟩ hP)
  (λi o h=>(.mk _ _ h.1 h.2 (by decide)))
  (λA i v fm cs s H o P E hh hA A9 hm hsh hi next=>by
  refine (hA.isList (show H l=some (.list xs) from A9)) _ λvs i1 r1=>?_;obtain ⟨c,e1,e2⟩:=r1.get hi;refine wpAny_pyNext_list_item (i:=i) ⟨o,hA.N.get (bO hm),hsh⟩ i1 (by simpa using e1) λh' hit hs=>?_;obtain ⟨o',VN,Sx⟩:=hit;refine (hA.bump hm hs VN s.toks) _ λcs' bJ CI hk=>?_;exact next c h' s.toks cs' o' e2 bJ CI Sx hk)
  (λA i fm cs s H o P E hh hA A9 hm hsh hi next=>by
  refine (hA.isList (show H l=some (.list xs) from A9)) _ λvs i1 r1=>?_;have e1:=r1.length;refine wpAny_pyNext_list_end (i:=i) hh ⟨o,hA.N.get (bO hm),hsh⟩ i1 (by rw [hi];simp [Src.items,e1]) λh' hk=>?_;refine (hA.drop hm hk) _ λcs' bJ wz=>?_;exact next h' cs' bJ wz)
theorem Ny:kl G (.seq l (.tuple xs) xs) I (ShT l):=
 .mk (λA i o s P E ho h hP=>wpAny_pyIter_tupleiter (i:=i) ⟨o,ho,h⟩ hP)
  (λi o h=>(.mk _ _ h.1 h.2 (by decide)))
  (λA i v fm cs s H o P E hh hA A9 hm hsh hi next=>by
  refine (hA.isTup (show H l=some (.tuple xs) from A9)) _ λvs i1 r1=>?_;obtain ⟨c,e1,e2⟩:=r1.get hi;refine wpAny_pyNext_tuple_item (i:=i) ⟨o,hA.N.get (bO hm),hsh⟩ i1 (by simpa using e1) λh' hit hs=>?_;obtain ⟨o',VN,Sx⟩:=hit;refine (hA.bump hm hs VN s.toks) _ λcs' bJ CI hk=>?_;exact next c h' s.toks cs' o' e2 bJ CI Sx hk)
  (λA i fm cs s H o P E hh hA A9 hm hsh hi next=>by
  refine (hA.isTup (show H l=some (.tuple xs) from A9)) _ λvs i1 r1=>?_;have e1:=r1.length;refine wpAny_pyNext_tuple_end (i:=i) hh ⟨o,hA.N.get (bO hm),hsh⟩ i1 (by rw [hi];simp [Src.items,e1]) λh' hk=>?_;refine (hA.drop hm hk) _ λcs' bJ wz=>?_;exact next h' cs' bJ wz)
theorem Ba (lo n:Int):(upTo lo n).length=(n - lo).toNat:=by simp [upTo]
theorem Nz {lo hi:Int}:kl G (.nums (upTo lo hi)) I (ShR lo (hi - lo).toNat):=
 .mk (λA i o s P E ho h hP=>by obtain rfl:o=_:=h;exact wpAny_pyIter_rangeiter ho hP)
  (λi o h=>by obtain rfl:o=_:=h;exact (.mk _ _ rfl rfl (by decide)))
  (λA i v fm cs s H o P E hh hA A9 hm hsh hi next=>by
  have fX:i<(upTo lo ‹Int›).length:=by
   have:=(List.getElem?_eq_some_iff.mp hi).1
   simpa [Src.items] using this
  simp only [Ba] at fX;have hv:v=.int (lo+i):=by
   simp only [Src.items,List.getElem?_map,upTo,Option.map_map] at hi;simp only [List.getElem?_range fX] at hi
   simpa using hi.symm
  subst hv;have ho:=hA.N.get (bO hm);simp only [show o=_ from hsh] at ho;refine wpAny_pyNext_range_item ho (by omega) λh' hit hs=>?_;refine (hA.bump (o':={cls:=.type "range_iterator",dict:=none,data:=.fields #[rawInt (lo+i+1),rawInt (((‹Int› - lo).toNat:Int) - i - 1),rawInt 1],slots:=#[]}) hm hs hit (s.toks+1)) _ λcs' bJ CI hk=>?_;refine next _ h' (s.toks+1) cs' _ ⟨_,rfl⟩ bJ CI ?_ hk;refine (?_:_=_);have e1:lo+(i:Int)+1=lo+((i+1:Nat):Int):=by grind only
  have e2:((‹Int› - lo).toNat:Int) - (i:Int) - 1=((‹Int› - lo).toNat:Int) - ((i+1:Nat):Int):=by grind only
  simp only [e1,e2])
  (λA i fm cs s H o P E hh hA A9 hm hsh hi next=>by
  have ho:=hA.N.get (bO hm);simp only [show o=_ from hsh] at ho;have hl:i=(‹Int› - lo).toNat:=by rw [hi];simp [Src.items,Ba]
  refine wpAny_pyNext_range_end hh ho (by grind only) λh' hk=>?_;refine (hA.drop hm hk) _ λcs' bJ wz=>?_;exact next h' cs' bJ wz)
def qB.ZF (G:Gx Γ)(fm:OV)(cs:List Cell)(s:Shared)(Q:Src->Hp->Prop)(iv:Value)(s':Shared)(Z:Prop):Prop:=∀(I:Addr)(src:Src)(Sh:Nat->Obj->Prop)(cs':List Cell)(H':Hp)(o:Obj)(e:iv=.ref I)(hS:cO s s')(hA:At G fm cs' s' H')(hK:dJ cs cs')(hI:∀c∈cs,c.1=none->c.2.1≠I) (hm:(none,I,o)∈cs') (hsh:Sh 0 o) (T:kl G src I Sh) (hQ:Q src H'),Z
def qB (G:Gx Γ)(fm cs s Q iv s'):=∀Z:Prop,qB.ZF G fm cs s Q iv s' Z->Z
theorem qB.mk:qB.ZF G fm cs s Q iv s' (qB G fm cs s Q iv s'):=λI src Sh cs' H' o e hS hA hK hI hm hsh T hQ _ Z=>Z I src Sh cs' H' o e hS hA hK hI hm hsh T hQ
theorem At.yZ (O:G.Ok k)(hA:At G fm cs s H)(o:Obj)(hf:o.isFreed=false):At G fm ((none,s.heap.objs.size,o)::cs) {s with heap:=s.heap.push o} H:=
 (.mk (hA.F.push _) (hA.N.push hA.F o hf) (by
  refine (.mk ?_ (λb ob hb=>(hA.R.rep b ob hb).more λc hc=>.tail _ hc));rw [List.map_cons,List.nodup_cons];refine ⟨λq=>?_,hA.R.nd⟩;refine aQ (List.mem_map.mp q) λc hc e=>?_;exact fresh_ne hA c hc e))
theorem aw.but (nd:(cs.map (·.2.1)).Nodup)(hm:(none,I,o)∈cs)(hd:noOwn o)(hk:∀c∈cs,c.2.1≠I->c∈cs') (h:aw G fm cs m):aw G fm cs' m:=λx v hx hv=>by
 refine hd _ λn vs h1 h2 h3=>?_;have z:∀{a:Addr}{ob:Obj},(none,a,ob)∈cs->a=I->ob=o:=λhc e=>congrArg (λc:Cell=>c.2.2) (o8 nd _ hc _ hm e);induction h x v hx hv with
 |loc q1 q2 cv q3 q4=>exact .loc q1 q2 cv q3 q4
 |cell q1 c oc cv q2 q3 q4 q5=>exact .cell q1 c oc cv q2 (hk _ q3 λe=>by rw [z q3 e,h2] at q4;injection q4) q4 q5
 |ns q1 oC m₂ cv q2 q3 q4 q5=>exact .ns q1 oC m₂ cv (hk _ q2 λe=>by obtain ⟨es,ep,r1,r2⟩:=q3;rw [z q2 e,h2] at r1;injection r1) q3 q4 q5
theorem dJ.but (h:dJ ub cs)(hI:∀c∈ub,c.1=none->c.2.1≠I) (hk:∀c∈cs,c.2.1≠I->c∈cs'):dJ ub cs':=λc hc hn=>hk c (h c hc hn) (hI c hc hn)
theorem Jf {E:SP}(ho:s.heap.get? I=some o)(hd:noOwn o)(h:P () s):wpAny (model prog w) A (letOwnedTupleGo target (.ref I) v) P E s:=by
 refine hd _ λn vs h1 h2 h3=>?_;have main:wpAny (model prog w) A (do
   let (.ref r,.ref a):=(Value.ref I,v)|return
   let o <- load r
   match o.cls,o.data with
   |.type n,.fields vs=>
    if ["enumerate","zip","dict_itemiterator","dict_reverseitemiterator","odict_iterator","itertools.zip_longest","itertools.pairwise"].contains n&&vs[0]?==some (rawInt a) then
     rule "for.unpacks-the-owned-tuple"
     updateField r 0 .none
   |_,_=>pure ()) P E s:=by
  induction v<;>first|exact wpAny_pure h|skip
  refine wpAny_bind (wpAny_load ho ?_);refine (h1)▸(h2)▸?_;simp only [h3,Bool.false_and];exact wpAny_pure h
 cases target<;>first|exact wpAny_pure h|exact main
def lB.ZF (G:Gx Γ)(r:Ev)(bind:V->Loc->Hp->(Loc->Prop)->Prop)(src:Src)(b:List Internal.S)(Q:FP)(I:Addr)(Sh:Nat->Obj->Prop)(ub:List Cell)(s0:Shared)(n:Nat)(s':Shared)(Z:Prop):Prop:=∀(i:Nat)(fm:OV)(cs':List Cell)(H':Hp)(m:Loc)(o:Obj)(e:n=src.items.length - i)(hi:i<=src.items.length)(hS:cO s0 s')(hA:At G fm cs' s' H')(hK:dJ ub cs')(hm:(none,I,o)∈cs')(hsh:Sh i o)(hL:aw G fm cs' m)(h:nZ r bind src b (src.items.drop i) m H' Q),Z
def lB (G:Gx Γ)(r bind src b Q I Sh ub s0 n s'):=∀Z:Prop,lB.ZF G r bind src b Q I Sh ub s0 n s' Z->Z
theorem lB.mk {bind}:lB.ZF G r bind src b Q I Sh ub s0 n s' (lB G r bind src b Q I Sh ub s0 n s'):=λi fm cs' H' m o e hi hS hA hK hm hsh hL h _ Z=>Z i fm cs' H' m o e hi hS hA hK hm hsh hL h
def pd.ZF (G:Gx Γ)(cs:List Cell)(s:Shared)(H:Hp)(Q1:Loc->Prop)(s':Shared)(Z:Prop):Prop:=∀(n6:OV)(m':Loc)(hS:cO s s')(hA:At G n6 cs s' H)(hL:aw G n6 cs m')(h:Q1 m'),Z
def pd (G:Gx Γ)(cs s H Q1 s'):=∀Z:Prop,pd.ZF G cs s H Q1 s' Z->Z
theorem pd.mk:pd.ZF G cs s H Q1 s' (pd G cs s H Q1 s'):=λn6 m' hS hA hL h _ Z=>Z n6 m' hS hA hL h
abbrev EG (G:Gx Γ)(bind:V->Loc->Hp->(Loc->Prop)->Prop)(target:PySem.Expr):Prop:=∀{v cv m H fm cs s}{Q1:Loc->Prop},VR v cv->At G fm cs s H->aw G fm cs m->bind v m H Q1->wG G (assign target G.env cv) (λZ s'=>pd G cs s H Q1 s') nE s
abbrev BodyOk (G:Gx Γ)(r:Ev)(b:List Internal.S)(pb:List Stmt):Prop:=∀{m H fm cs s}{Q1:FP},eK r b m H Q1->At G fm cs s H->aw G fm cs m->wG G (execs pb G.env) (dj G cs s Q1) nE s
variable {bind:V->Loc->Hp->(Loc->Prop)->Prop}
abbrev Jg (G:Gx Γ)(r:Ev)(bind:V->Loc->Hp->(Loc->Prop)->Prop)(src:Src)(b:List Internal.S)(Q:FP)(I:Addr)(Sh:Nat->Obj->Prop)(ub:List Cell)(s0:Shared)(R:Result->Shared->Prop)(N:Nat)(f:Flow)(Bb:Shared):Prop:=match f with
 |.next|.cont=>∃m,m<N/\lB G r bind src b Q I Sh ub s0 m Bb
 |.brk=>R (.ok .next) Bb
 |.ret v=>R (.ok (.ret v)) Bb
theorem Jh (O:G.Ok k)(T:kl G src I Sh)(y0:EG G bind target)(Yp:∀c∈ub,c.1=none->c.2.1≠I) (h0:lB G r bind src b Q I Sh ub s0 N s) (hR:∀f s',dj G ub s0 Q f s'->R (.ok f) s')
  {R0:Shared->Prop} {PP:Shared->Prop} {E:SP} (done:∀s',R (.ok .next) s'->R0 s')
  (body:∀{m H fm cs s1}{Q1:FP},eK r b m H Q1->At G fm cs s1 H->aw G fm cs m->(∀f s',dj G cs s1 Q1 f s'->Jg G r bind src b Q I Sh ub s0 R N f s')->PP s1):
  wG G (pyNext (.ref I)) (λr ba=>match r with
   |none=>R0 ba
   |some v=>wG G (letOwnedTupleGo target (.ref I) v) (λZ EH=>wG G (assign target G.env v) (λZ=>PP) E EH) E ba) E s:=by
 refine h0 _ λi fm1 zZ H1 m1 o1 q10 hi hS1 lW L9 Yr ND Cw h1=>?_;clear h0;obtain rfl:=q10;by_cases fX:i<src.items.length
 ·rw [List.drop_eq_getElem_cons fX] at h1
  refine T.item G.A (v:=src.items[i]) O.hh lW h1.1 Yr ND (List.getElem?_eq_getElem fX) λcv h' tk kO o2 hv mK HS Du xj=>?_;refine Jf (mK.N.get (bO HS)) (T.go _ _ Du) ?_;refine wpAny_mono (y0 hv mK (Cw.but lW.R.nd Yr (T.go _ _ ND) xj) h1.2) (λZ s3 z=>?_) λZ Z z=>z.elim;refine z _ λfm3 m3 Ct tK Nc h3=>?_;refine body h3 tK Nc λf s4 z=>?_;obtain ⟨Zj,fm4,Zw,H4,m4,af,Ma,Qu,Zx,hf,h4⟩:=z;have hS:cO s0 s4:=(hS1.trans (cO.of Ct rfl rfl)).trans Zj;have hK:=(L9.but Yp xj).trans Qu;induction hf with
  |next=>exact ⟨_,by omega,(.mk (i+1) fm4 Zw H4 m4 o2 rfl fX hS Ma hK (Qu _ HS rfl) Du Zx h4)⟩
  |brk=>exact hR _ _ (.mk hS Ma hK Zx .next h4)
  |ret hv=>exact hR _ _ (.mk hS Ma hK Zx (.ret hv) h4)
 ·obtain rfl:=Nat.le_antisymm hi (Nat.not_lt.mp fX)
  replace h1:=(List.drop_length)▸h1;refine T.done G.A O.hh lW h1.1 Yr ND rfl λh' kO mK xj=>done _ ?_;exact hR _ _ (.mk (hS1.trans (.mk rfl rfl rfl)) mK (L9.but Yp xj) (Cw.but lW.R.nd Yr (T.go _ _ ND) xj) .next h1.2)
theorem Bc (O:G.Ok k)(T:kl G src I Sh)(y0:EG G bind target)(uF:BodyOk G r b pb)(Yp:∀c∈ub,c.1=none->c.2.1≠I) (h0:lB G r bind src b Q I Sh ub s0 N s) (hR:∀f s',dj G ub s0 Q f s'->R (.ok f) s'):
  codeAny (model Γ.prog Γ.w) G.A (.forLoop target (.ref I) pb [] G.env) R s:=
 codeAny_forLoop_any (lB G r bind src b Q I Sh ub s0) (λn s' z=>Jh O T y0 Yp z hR (λs' h=>wpAny_execs_nil h) λh hA hL k=>wpAny_mono (uF h hA hL) k λZ Z z=>z.elim) _ h0
end
end
section
variable {G:Gx Γ}
theorem Bd (h0:0<=a)(ha:a<2 ^ 62)(hb:b<2 ^ 62)(NF:-(2 ^ 62)<b):Builtin.Range.small a b 1=true:=by
 have e:Builtin.Range.rangeSize a b 1=((b - a).toNat:Int):=rangeSize_nat a b;delta Builtin.Range.small Builtin.Range.rangeFitsLong;rw [e];simp only [Bool.and_eq_true,Bool.or_eq_true,decide_eq_true_eq,beq_iff_eq];refine ⟨⟨⟨⟨?_,?_⟩,?_⟩,?_⟩,.inr ?_⟩<;>first|assumption|skip
 all_goals (simp;try grind)
theorem lC (lW:At G fm zZ s1 H1)(hK:dJ cs zZ):∀c∈cs,c.1=none->c.2.1≠s1.heap.objs.size:=λc hc hn=>fresh_ne lW c (hK c hc hn)
theorem vg (O:G.Ok k){lo hi:Int}(hr:IsRange s1.heap R lo hi 1 t u v)(h0:0<=lo)(h1:lo<2 ^ 62)(h2:hi<2 ^ 62)(h3:-(2 ^ 62)<hi)
  (hS:cO s s1)(lW:At G fm zZ s1 H1)(hK:dJ cs zZ)(h:Q (.nums (upTo lo hi)) H1):wG G (pyIter (.ref R)) (qB G fm cs s Q) nE s1:=by
 refine wpAny_pyIter_range hr (Bd h0 h1 h2 h3) ?_;refine (.mk _ _ (ShR lo (hi - lo).toNat) _ _ _ rfl (hS.trans (.mk rfl rfl rfl)) (lW.yZ O {cls:=.type "range_iterator",dict:=none,data:=.fields #[rawInt lo,rawInt (Builtin.Range.rangeSize lo hi 1),rawInt 1],slots:=#[]} rfl) (hK.trans λc hc Z=>.tail _ hc) (lC lW hK) (.head _) ?_ Nz h);refine (?_:_=_);rw [rangeSize_nat];simp
theorem rH (GO:iN Γ)(bp:cE Γ k r)(O:G.Ok k)(dw:gX it=true)(hm:MI (ME n G.sc) G.sc it gZ)(h:wW r it m H Q)(hA:At G fm cs s H)(hL:aw G fm cs m):
  wG G (eval gZ G.env) (λx s1=>wG G (pyIter x) (qB G fm cs s Q) nE s1) nE s:=by
 induction hm with
 |over e x hm=>
  refine eU bp O hm (show r.E e m H (xp Q) from h) hA hL λzZ s1 H1 av cv hS lW Cw hK hv h1=>?_;induction h1 with
  |list a xs hx h1=>
   rw [show cv=_ from hv];refine (lW.isList hx) _ λl i1 r1=>?_;refine wpAny_pyIter_list i1 ?_;exact (.mk _ (.seq a (.list xs) xs) (Zv a) _ _ _ rfl (hS.trans (.mk rfl rfl rfl)) (lW.yZ O _ rfl) (hK.trans λc hc Z=>.tail _ hc) (lC lW hK) (.head _) ⟨rfl,rfl⟩ Sw h1)
  |tuple a xs hx h1=>
   rw [show cv=_ from hv];refine (lW.isTup hx) _ λl i1 r1=>?_;refine wpAny_pyIter_tuple i1 ?_;exact (.mk _ (.seq a (.tuple xs) xs) (ShT a) _ _ _ rfl (hS.trans (.mk rfl rfl rfl)) (lW.yZ O _ rfl) (hK.trans λc hc Z=>.tail _ hc) (lC lW hK) (.head _) ⟨rfl,rfl⟩ Ny h1)
 |range e x p q g hm=>
  refine kj GO bp O (.inr ⟨"range",rfl⟩) (by decide) (by decide) (by decide) (by decide+kernel) g hm (show r.E e m H (uQ Q) from h) hA hL λzZ s1 H1 av cv hS lW Cw hK hv h1=>?_;induction h1 with|mk hi h1 h2 h3=>
  obtain ⟨t,rfl⟩:=hv;obtain ⟨h2,h4⟩:=h2;refine range1_rows lW.F lW.N λh' tk Zy Zz ZA hr F' N' hk=>?_;exact vg (s1:={s1 with heap:=h',toks:=tk}) O hr (by simp+arith only) (by grind only) h4 h2 (hS.trans (.mk rfl rfl rfl)) (.mk F' N' lW.R) hK h3
 |mD a b x y p q g hm HS=>
  refine AW GO bp O (.inr ⟨"range",rfl⟩) (by decide) (by decide) (by decide) (by decide+kernel) g hm HS (Q1:=λv w H=>uo H Q v w) h hA hL λzZ s1 H1 av bv v w hS lW Cw hK hv hw h1=>?_;induction h1 with|mk lo hi h0 h1 h2 h5 h3=>
  obtain ⟨t,rfl⟩:=hv;obtain ⟨u,rfl⟩:=hw;refine range2_rows lW.F lW.N λh' tk Zy Zz ZA hr F' N' hk=>?_;exact vg (s1:={s1 with heap:=h',toks:=tk}) O hr h0 h5.2 h2.2 h2.1 (hS.trans (.mk rfl rfl rfl)) (.mk F' N' lW.R) hK h3
 |enum e x p q g hm=>injection dw
theorem GG (h:Internal.cls gZ=true)(x:Value):foldedSetIterable gZ env x=pure x:=by
 cases gZ<;>first|rfl|injection h
theorem lX (h:MI (ME n sc) sc it gZ)(x:Value):foldedSetIterable gZ env x=pure x:=by
 induction h with
 |over e x h=>exact GG h.cls _
 |range=>rfl
 |mD=>rfl
 |enum=>rfl
theorem Be (KO:gE Γ)(O:G.Ok k)(de:G.loc=G.L)(hx:bz G.sc x=true):EG G (bind1 x) (.Name x.s p):=λ{v cv m H fm cs s}{Q1} hv hA hL hb=>
 assign_Name (ic KO de O hx hv hA hL λs' iP dZ mH=>(.mk _ _ iP dZ mH hb))
theorem Sy (GO:iN Γ)(KO:gE Γ)(bp:cE Γ k r)(O:G.Ok k)(de:G.loc=G.L)(dw:gX it=true)(hx:bz G.sc x=true)(hm:MI (ME n G.sc) G.sc it gZ)
  (uF:BodyOk G r b pb)(h:wW r it m H λs H=>nZ r (bind1 x) s b s.items m H Q) (hA:At G fm cs s H) (hL:aw G fm cs m):wG G (exec (.For (.Name x.s p) gZ pb [] pos) G.env) (dj G cs s Q) nE s:=by
 refine wpAny_For (wpAny_mono (rH GO bp O dw hm h hA hL) (λxv s1 h1=>wpAny_mono h1 (λiv s2 h2=>?_) λZ Z z=>z.elim) λZ Z z=>z.elim) (lX hm);refine h2 _ λI src Sh cs' H' o q4 hS bJ hK hI uD hsh T hQ=>?_;clear h2;obtain rfl:=q4;exact Bc O T (Be KO O de hx) uF hI (.mk 0 fm cs' H' m o rfl (Nat.zero_le _) hS bJ hK uD hsh (hL.keep hK) hQ) λf s' z=>z
theorem Ji (KO:gE Γ)(O:G.Ok k)(de:G.loc=G.L)(hx:bz G.sc x=true)(hy:bz G.sc y=true):EG G (uR x y) (.Tuple [.Name x.s p1,.Name y.s p2] kk p):=λ{v cv m H fm cs s}{Q1} hv hA hL hb=>by
 cases (show Ep H (λa b=>Q1 (put y b (put x a m))) v from hb) with|mk a u w oR UC=>
 refine (show cv=_ from hv)▸?_;refine (hA.isTup oR) _ λl i1 r1=>?_;have Nk:HQ G.sc [x,y] [.Name x.s p1,.Name y.s p2]:=.cons _ _ _ _ hx (.cons _ _ _ _ hy .nil);refine cX (n7 (env:=G.env) Nk) λe1 e2=>?_;refine unpackN_ hA.F hA.N i1 O.hh (show _=l.length by simp only [e1,<- r1.length];rfl) e2 λh2 F' N'=>?_;exact tN (s:={s with heap:=h2}) KO de O Nk r1 rfl (.mk F' N' hA.R) hL λn6 CL iP dZ mH=>(.mk n6 _ (cO.of iP rfl rfl) dZ mH UC)
theorem NG (GO:iN Γ)(KO:gE Γ)(bp:cE Γ k r)(O:G.Ok k)(de:G.loc=G.L)(dw:gX it=true)(hx:bz G.sc x=true)(hy:bz G.sc y=true)(hm:MI (ME n G.sc) G.sc it gZ)
  (uF:BodyOk G r b pb)(h:wW r it m H λs H=>nZ r (uR x y) s b s.items m H Q) (hA:At G fm cs s H) (hL:aw G fm cs m):wG G (exec (.For (.Tuple [.Name x.s p1,.Name y.s p2] kk p) gZ pb [] pos) G.env) (dj G cs s Q) nE s:=by
 refine wpAny_For (wpAny_mono (rH GO bp O dw hm h hA hL) (λxv s1 h1=>wpAny_mono h1 (λiv s2 h2=>?_) λZ Z z=>z.elim) λZ Z z=>z.elim) (lX hm);refine h2 _ λI src Sh cs' H' o q5 hS bJ hK hI uD hsh T hQ=>?_;clear h2;obtain rfl:=q5;exact Bc O T (Ji KO O de hx hy) uF hI (.mk 0 fm cs' H' m o rfl (Nat.zero_le _) hS bJ hK uD hsh (hL.keep hK) hQ) λf s' z=>z
theorem Sz {b:List Internal.S}{pb:List Stmt}{h0:ExceptHandler}{hs:List ExceptHandler}{pos:Pos}{Q:FP}(h:wG G (execs pb G.env) (dj G cs s Q) nE s):
  wG G (exec (.Try pb (h0::hs) [] [] pos) G.env) (dj G cs s Q) nE s:=
 wpAny_Try_except (wpAny_mono h (λf s1 z=>by
  induction f with
  |next=>exact wpAny_execs_nil z
  |brk=>exact z
  |cont=>exact z
  |ret v=>exact z) λZ Z z=>z.elim)
end
theorem ZC (x:Nm):x.s≠".0":=(show ∀i,(Nm.mk i).s≠".0" by decide+kernel) x.i
def gh.ZF (sc bY:Scope)(xs:List Nm)(Z:Prop):Prop:=∀(p1:bY.kind=.function)(p2:∀y∈bY.names,y.2≠.cell) (p3:∀y∈bY.names,y.2=.local->bY.names.lookup y.1=some .local/\(y.1=".0"\/∃x∈xs,x.s=y.1)) (p4:∀y∈bY.names,y.2=.free->sc.kind=.function/\sc.names.lookup y.1=some .cell) (p5:∀x∈xs,bY.names.lookup x.s=some .local),Z
def gh (sc bY xs):=∀Z:Prop,gh.ZF sc bY xs Z->Z
theorem gh.mk:gh.ZF sc bY xs (gh sc bY xs):=λp1 p2 p3 p4 p5 _ Z=>Z p1 p2 p3 p4 p5
def gh.p1 (Z:gh sc bY xs):=Z _ λp1 p2 p3 p4 p5=>p1
def gh.p2 (Z:gh sc bY xs):=Z _ λp1 p2 p3 p4 p5=>p2
def gh.p3 (Z:gh sc bY xs):=Z _ λp1 p2 p3 p4 p5=>p3
def gh.p4 (Z:gh sc bY xs):=Z _ λp1 p2 p3 p4 p5=>p4
def gh.p5 (Z:gh sc bY xs):=Z _ λp1 p2 p3 p4 p5=>p5
theorem bG (h:iB sc bY xs=true):gh sc bY xs:=by
 unfold iB at h;simp only [Bool.and_eq_true,List.all_eq_true,Bool.or_eq_true,bne_iff_ne,beq_iff_eq,List.any_eq_true] at h;obtain ⟨⟨⟨⟨h1,h2⟩,h3⟩,h4⟩,h5⟩:=h;exact (.mk h1 h2 (λy hy e=>(h3 y hy).resolve_left (λq=>q e)) (λy hy e=>(h4 y hy).resolve_left (λq=>q e)) h5)
noncomputable def UD (env:Env)(x:Str×NameKind)(r:List (Str×Addr)):Sem (ForInStep (List (Str×Addr))):=do
 if x.2==.free then
  let c <- cellOf env x.1
  pure (ForInStep.yield ((x.1,c)::r))
 else pure (ForInStep.yield r)
theorem NH (e:y.2=.free)(h:env.cells.lookup y.1=some c):UD env y r=pure (.yield ((y.1,c)::r)):=by
 have:cellOf env y.1=pure c:=by unfold cellOf;rw [h]
 unfold UD;rw [if_pos (beq_iff_eq.mpr e),this];rfl
theorem EJ (h:UD env y r=pure (.yield r')):forIn (y::names) r (UD env)=forIn names r' (UD env):=by
 rw [List.forIn_cons,h];rfl
theorem Dv {names:List (Str×NameKind)}:∀(acc:List (Str×Addr)),(∀y∈names,y.2=.free->(env.cells.lookup y.1).isSome=true)->
  ∃cl:List (Str×Addr),forIn names acc (UD env)=pure cl/\∀z,((z,NameKind.free)∈names\/acc.lookup z=env.cells.lookup z)->cl.lookup z=env.cells.lookup z:=by
 induction names with
 |nil=>exact λacc Z=>⟨acc,rfl,λz h=>h.elim (λh=>absurd h List.not_mem_nil) id⟩
 |cons y names ih=>
  intro acc h;by_cases e:y.2=.free
  ·obtain ⟨c,hc⟩:=Option.isSome_iff_exists.mp (h y (.head _) e)
   refine aQ (ih ((y.1,c)::acc) λy hy=>h y (.tail _ hy)) λcl h1 h2=>⟨cl,(EJ (NH e hc)).trans h1,λz hz=>h2 z ?_⟩;by_cases q:z=y.1
   ·right;rw [q,List.lookup_cons,beq_self_eq_true,hc]
   ·exact hz.imp (λhz=>(List.mem_cons.mp hz).resolve_left λe=>q (congrArg Prod.fst e)) λhz=>by rw [List.lookup_cons,beq_eq_false_iff_ne.mpr q];exact hz
  ·exact aQ (ih acc λy hy=>h y (.tail _ hy)) λcl h1 h2=>⟨cl,(EJ (if_neg λq=>e (beq_iff_eq.mp q))).trans h1,λz hz=>h2 z (hz.imp_left λhz=>(List.mem_cons.mp hz).resolve_left λq=>e (congrArg Prod.snd q).symm)⟩
theorem Dw (h:∀y∈scope.names,y.2=.free->(env.cells.lookup y.1).isSome=true):∃cl:List (Str×Addr),closureFor scope env=pure cl/\∀z,(z,NameKind.free)∈scope.names->cl.lookup z=env.cells.lookup z:=by
 refine aQ (Dv [] h) λcl h1 h2=>?_;refine ⟨cl,?_,λz hz=>h2 z (.inl hz)⟩;exact congrArg (λt:Sem (List (Str×Addr))=>t >>= λs=>pure s) h1
noncomputable def Gx.comp {Γ:Cx}(G:Gx Γ)(bY:Scope)(cl:List (Str×Addr))(C:Addr):Gx Γ:={G with sc:=dR bY,loc:=C,cl:=cl,fn:=none}
section
variable {G:Gx Γ}
theorem Jj (h:iB G.sc bY xs=true):relabel bY G.env=dR bY:=by
 have h4:=(bG h).p4;delta relabel dR;congr 1;refine List.map_congr_left λy hy=>?_;obtain ⟨n,k⟩:=y;by_cases e:k=.free
 ·obtain ⟨q1,q2⟩:=h4 _ hy e
  have e1:(k==NameKind.free)=true:=beq_iff_eq.mpr e;have e2:(G.env.scope.kind==ScopeKind.function)=true:=beq_iff_eq.mpr q1;have e3:(G.env.kindOf n==some NameKind.cell)=true:=beq_iff_eq.mpr q2;simp only [e1,e2,e3,Bool.and_self,if_true]
 ·have e1:(k==NameKind.free)=false:=beq_eq_false_iff_ne.mpr e
  simp only [e1,Bool.false_and]
theorem Jk (h:iB G.sc bY xs=true):compEnvC bY cl C G.env=(G.comp bY cl C).env:=by
 unfold compEnvC;refine (Jj h)▸?_;rfl
theorem rI {k:NameKind}(h:(dR bY).names.lookup x=some k):(bY.names.lookup x=some k/\k≠.free)\/(k=.cell/\bY.names.lookup x=some .free):=by
 unfold dR at h;dsimp only at h;generalize bY.names=l at h ⊢;induction l with
 |nil=>injection h
 |cons y l ih=>
  obtain ⟨n,kd⟩:=y;replace h:=(List.map_cons)▸h;rw [List.lookup_cons];by_cases q:(x==n)=true
  ·simp only [q]
   by_cases e:(kd==NameKind.free)=true
   ·simp only [e,if_true,List.lookup_cons,q] at h
    cases h;exact .inr ⟨rfl,by rw [beq_iff_eq.mp e]⟩
   ·have e':(kd==NameKind.free)=false:=Bool.eq_false_iff.mpr e
    simp only [e',Bool.false_eq_true,if_false,List.lookup_cons,q] at h;cases h;exact .inl ⟨rfl,λz=>e (beq_iff_eq.mpr z)⟩
  ·have q':(x==n)=false:=Bool.eq_false_iff.mpr q
   simp only [q'];by_cases e:(kd==NameKind.free)=true
   ·simp only [e,if_true,List.lookup_cons,q'] at h
    exact ih h
   ·have e':(kd==NameKind.free)=false:=Bool.eq_false_iff.mpr e
    simp only [e',Bool.false_eq_true,if_false,List.lookup_cons,q'] at h;exact ih h
theorem ie (h:bY.names.lookup x=some .local):(dR bY).names.lookup x=some .local:=by
 unfold dR;dsimp only;generalize bY.names=l at h ⊢;induction l with
 |nil=>injection h
 |cons y l ih=>
  obtain ⟨n,kd⟩:=y;rw [List.map_cons];rw [List.lookup_cons] at h;by_cases q:(x==n)=true
  ·simp only [q] at h
   cases h;have e':(NameKind.local==NameKind.free)=false:=rfl;simp only [e',Bool.false_eq_true,if_false,List.lookup_cons,q]
  ·have q':(x==n)=false:=Bool.eq_false_iff.mpr q
   simp only [q'] at h;by_cases e:(kd==NameKind.free)=true
   ·simp only [e,if_true,List.lookup_cons,q']
    exact ih h
   ·have e':(kd==NameKind.free)=false:=Bool.eq_false_iff.mpr e
    simp only [e',Bool.false_eq_true,if_false,List.lookup_cons,q'];exact ih h
theorem NI (O:G.Ok k)(h:iB G.sc bY xs=true)(Aj:∀z,(z,NameKind.free)∈bY.names->cl.lookup z=G.cl.lookup z):(G.comp bY cl C).Ok k:=
 .mk O.hh
  O.nu
  O.top
  O.below
  O.fr
  O.ff
  O.fk
  ((bG h).p1)
  (λx hx=>by
  rcases rI hx with ⟨q,_⟩|⟨_,q⟩
  ·exact absurd rfl ((bG h).p2 _ (lookup_mem q))
  ·refine (?_:(cl.lookup x).isSome=true)
   rw [Aj x (lookup_mem q)];exact O.cells x ((bG h).p4 _ (lookup_mem q) rfl).2)
  O.ro
  O.depth
  O.units
def sM.ZF {Γ:Cx}(Gc:Gx Γ)(cs:List Cell)(z:Nm)(w:V)(Z:Prop):Prop:=∀(q:Gc.sc.names.lookup z.s=some .cell)(c:Addr)(o:Obj)(cv:Value)(q1:Gc.cl.lookup z.s=some c)(q2:(none,c,o)∈cs)(q3:o.data=.cell (some cv))(q4:VR w cv),Z
def sM {Γ}(Gc cs z w):=∀Z:Prop,sM.ZF (Γ:=Γ) Gc cs z w Z->Z
theorem sM.mk:sM.ZF (Γ:=Γ) Gc cs z w (sM (Γ:=Γ) Gc cs z w):=λq c o cv q1 q2 q3 q4 _ Z=>Z q c o cv q1 q2 q3 q4
def fK {Γ:Cx}(Gc:Gx Γ)(xs:List Nm)(cs:List Cell)(m:Loc):Prop:=∀z w,z∉xs->ng Gc.sc z=true->look z m=some w->sM Gc cs z w
theorem fK.keep (h:fK Gc xs cs m)(k:dJ cs cs'):fK Gc xs cs' m:=λz w h1 h2 h3=>by
 refine (h z w h1 h2 h3) _ λq c o cv q1 q2 q3 q4=>?_;exact (.mk q c o cv q1 (k _ q2 rfl) q3 q4)
theorem GH (KO:gE Γ)(h:gh sc bY xs)(hz:z∉xs)(hi:ng (dR bY) z=true):(dR bY).names.lookup z.s=some .cell/\bY.names.lookup z.s=some .free:=by
 unfold ng at hi;cases e:(dR bY).names.lookup z.s with
 |none=>rw [e] at hi;injection hi
 |some k=>
  rcases rI e with ⟨q1,q2⟩|⟨q1,q2⟩
  ·exfalso
   rw [e] at hi;induction k with
   |«local»=>exact (h.p3 _ (lookup_mem q1) rfl).2.elim (ZC z) λ⟨x,hx,q⟩=>hz (KO.inj _ _ q▸hx)
   |cell=>exact h.p2 _ (lookup_mem q1) rfl
   |free=>exact q2 rfl
   |globalExplicit=>injection hi
   |globalImplicit=>injection hi
  ·exact ⟨by rw [q1],q2⟩
theorem fK.of (KO:gE Γ)(h:iB G.sc bY xs=true)(Aj:∀z,(z,NameKind.free)∈bY.names->cl.lookup z=G.cl.lookup z) (hL:aw G fm cs m):fK (G.comp bY cl C) xs cs m:=λz w hz hi hw=>by
 obtain ⟨k1,k2⟩:=GH KO (bG h) hz hi;have hf:=((bG h).p4 _ (lookup_mem k2) rfl).2;cases hL z w (by unfold ng;rw [hf]) hw with
 |loc q1 q=>rw [hf] at q;contradiction
 |cell q1 c o cv q2 q3 q4 q5=>exact (.mk k1 c o cv ((Aj _ (lookup_mem k2)).trans q2) q3 q4 q5)
 |ns q=>rw [hf] at q;contradiction
end
def qC (o:Obj):Prop:=∀v,o.data≠.cell v
def fy.ZF {Γ:Cx}(G Gc:Gx Γ)(xs:List Nm)(m:Loc)(W:List Addr)(fm:OV)(H:Hp)(cs:List Cell)(cs':List Cell)(sN:Obj)(iE:OV)(m':Loc)(s':Shared)(Z:Prop):Prop:=∀(A:At G fm cs' s' H)(C:(none,Gc.loc,sN)∈cs')(ns:LCg.NsObj sN iE)(L:aw Gc fm cs' m')(X:fK Gc xs cs' m)(k:∀c∈cs,c.2.1≠Gc.loc->c.2.1∉W->c∈cs'),Z
def fy {Γ}(G Gc xs m W fm H cs cs' sN iE m' s'):=∀Z:Prop,fy.ZF (Γ:=Γ) G Gc xs m W fm H cs cs' sN iE m' s' Z->Z
theorem fy.mk:fy.ZF (Γ:=Γ) G Gc xs m W fm H cs cs' sN iE m' s' (fy (Γ:=Γ) G Gc xs m W fm H cs cs' sN iE m' s'):=λA C ns L X k _ Z=>Z A C ns L X k
def fy.A (Z:fy (Γ:=Γ) G Gc xs m W fm H cs cs' sN iE m' s'):=Z _ λA C ns L X k=>A
def fy.C (Z:fy (Γ:=Γ) G Gc xs m W fm H cs cs' sN iE m' s'):=Z _ λA C ns L X k=>C
def fy.ns (Z:fy (Γ:=Γ) G Gc xs m W fm H cs cs' sN iE m' s'):=Z _ λA C ns L X k=>ns
def fy.L (Z:fy (Γ:=Γ) G Gc xs m W fm H cs cs' sN iE m' s'):=Z _ λA C ns L X k=>L
def fy.X (Z:fy (Γ:=Γ) G Gc xs m W fm H cs cs' sN iE m' s'):=Z _ λA C ns L X k=>X
def fy.k (Z:fy (Γ:=Γ) G Gc xs m W fm H cs cs' sN iE m' s'):=Z _ λA C ns L X k=>k
def TurnOk.ZF {Γ:Cx}(G Gc:Gx Γ)(xs:List Nm)(m:Loc)(src:Src)(bind:Nat->V->Hp->(Loc->Prop)->Prop)(iv:Value)(target:PySem.Expr)(W:List Addr)(St:Nat->List Cell->Prop)(z:Prop):Prop:=∀(own:∀i cs,St i cs->∀a∈W,∃o,(none,a,o)∈cs/\qC o) (keep:∀i cs cs',St i cs->(∀c∈cs,c.1=none->c.2.1∈W->c∈cs')->St i cs') (item:∀{i:Nat}{v:V}{fm:OV}{cs:List Cell}{s:Shared}{H:Hp}{oC:Obj}{m₂:OV}{Q1:Loc->Prop}{P:Unit->Shared->Prop}{R0:Shared->Prop}{E:SP},At G fm cs s H->src.ok H->St i cs->(none,Gc.loc,oC)∈cs->LCg.NsObj oC m₂->fK Gc xs cs m->src.items[i]?=some v->bind i v H Q1->(∀h' tk cs' sN iE m',fy G Gc xs m W fm H cs cs' sN iE m' {s with heap:=h',toks:=tk}->St (i+1) cs'->Q1 m'->P () {s with heap:=h',toks:=tk})->wG G (pyNext iv) (λr s1=>match r with|none=>R0 s1|some v=>wG G (letOwnedTupleGo target iv v) (λZ s0=>wG G (assign target Gc.env v) P E s0) E s1) E s) (done:∀{i:Nat}{fm:OV}{cs:List Cell}{s:Shared}{H:Hp}{P:Option Value->Shared->Prop}{E:SP},At G fm cs s H->src.ok H->St i cs->i=src.items.length->(∀h' cs',At G fm cs' {s with heap:=h'} H->(∀c∈cs,c.2.1∉W->c∈cs')->P none {s with heap:=h'})->wG G (pyNext iv) P E s) (self:∀{fm:OV}{cs:List Cell}{s:Shared}{H:Hp}{P E:SP},At G fm cs s H->St 0 cs->P iv s->wG G (pyIter iv) P E s),z
def TurnOk {Γ}(G Gc xs m src bind iv target W St):=∀Z:Prop,TurnOk.ZF (Γ:=Γ) G Gc xs m src bind iv target W St Z->Z
theorem TurnOk.mk {G Gc:Gx Γ}{bind St}:TurnOk.ZF (Γ:=Γ) G Gc xs m src bind iv target W St (TurnOk (Γ:=Γ) G Gc xs m src bind iv target W St):=λown keep item done self _ Z=>Z own keep item done self
def TurnOk.own {G Gc:Gx Γ}{bind St}(Z:TurnOk (Γ:=Γ) G Gc xs m src bind iv target W St):=Z _ λown keep item done self=>own
def TurnOk.keep {G Gc:Gx Γ}{bind St}(Z:TurnOk (Γ:=Γ) G Gc xs m src bind iv target W St):=Z _ λown keep item done self=>keep
theorem TurnOk.item {G Gc:Gx Γ}{bind St}(z:TurnOk (Γ:=Γ) G Gc xs m src bind iv target W St):∀{i:Nat}{v:V}{fm:OV}{cs:List Cell}{s:Shared}{H:Hp}{oC:Obj}{m₂:OV}{Q1:Loc->Prop}{P:Unit->Shared->Prop}{R0:Shared->Prop}{E:SP},At G fm cs s H->src.ok H->St i cs->(none,Gc.loc,oC)∈cs->LCg.NsObj oC m₂->fK Gc xs cs m->src.items[i]?=some v->bind i v H Q1->(∀h' tk cs' sN iE m',fy G Gc xs m W fm H cs cs' sN iE m' {s with heap:=h',toks:=tk}->St (i+1) cs'->Q1 m'->P () {s with heap:=h',toks:=tk})->wG G (pyNext iv) (λr s1=>match r with|none=>R0 s1|some v=>wG G (letOwnedTupleGo target iv v) (λZ s0=>wG G (assign target Gc.env v) P E s0) E s1) E s:=z _ λown keep item done self=>item
theorem TurnOk.done {G Gc:Gx Γ}{bind St}(Z:TurnOk (Γ:=Γ) G Gc xs m src bind iv target W St):∀{i:Nat}{fm:OV}{cs:List Cell}{s:Shared}{H:Hp}{P:Option Value->Shared->Prop}{E:SP},At G fm cs s H->src.ok H->St i cs->i=src.items.length->(∀h' cs',At G fm cs' {s with heap:=h'} H->(∀c∈cs,c.2.1∉W->c∈cs')->P none {s with heap:=h'})->wG G (pyNext iv) P E s:=Z _ λown keep item done self=>done
theorem TurnOk.self {G Gc:Gx Γ}{bind St}(Z:TurnOk (Γ:=Γ) G Gc xs m src bind iv target W St):∀{fm:OV}{cs:List Cell}{s:Shared}{H:Hp}{P E:SP},At G fm cs s H->St 0 cs->P iv s->wG G (pyIter iv) P E s:=Z _ λown keep item done self=>self
section
theorem fK.move {B:List Addr}(nd:(cs.map (·.2.1)).Nodup)(h:fK Gc xs cs m)(hk:∀c∈cs,c.2.1∉B->c∈cs') (hB:∀a∈B,∃o,(none,a,o)∈cs/\qC o):fK Gc xs cs' m:=λz w h1 h2 h3=>by
 refine (h z w h1 h2 h3) _ λq c o cv q1 q2 q3 q4=>?_;refine (.mk q c o cv q1 (hk _ q2 λe=>?_) q3 q4);refine aQ (hB _ e) λo' p1 p2=>?_;have e2:o=o':=congrArg (λc:Cell=>c.2.2) (o8 nd _ q2 _ p1 rfl);exact p2 _ (e2▸q3)
theorem sO {m:OV}(h:LCg.NsObj o m):qC o:=λv e=>by
 refine pU h λes ep q Z=>?_;rw [q] at e;injection e
theorem Bf:qC (listOf vs n):=λv e=>by injection e
theorem fK.Bg (nd:(cs.map (·.2.1)).Nodup)(h:fK Gc xs cs m)(hk:∀c∈cs,c.2.1≠a->c∈cs') (ho:(none,a,o)∈cs) (hn:qC o):fK Gc xs cs' m:=
 h.move (B:=[a]) nd (λq hq Ys=>hk q hq λe=>Ys (e▸.head _)) λb hb=>(List.mem_singleton.mp hb).symm▸⟨o,ho,hn⟩
structure n8 (Γ:Cx) where
 G:Gx Γ
 bY:Scope
 cl:List (Str×Addr)
 C:Addr
 D:Addr
 fm:OV
 r:Ev
 xs:List Nm
 m:Loc
 src:Src
 bind:Nat->V->Hp->(Loc->Prop)->Prop
 iv:Value
 target:PySem.Expr
 W:List Addr
 St:Nat->List Cell->Prop
 elt:Internal.E
 c:Option Internal.E
 ub:List Cell
 s0:Shared
 QQ:LP
noncomputable abbrev n8.Gm (P:n8 Γ):Gx Γ:=P.G.comp P.bY P.cl P.C
noncomputable abbrev n8.N (P:n8 Γ):Nat:=P.src.items.length
abbrev n8.go (P:n8 Γ)(i:Nat)(cM:List V)(H:Hp):Prop:=iA P.r P.elt P.bind P.src P.c i (P.src.items.drop i) cM H P.QQ
def CB.ZF (P:n8 Γ)(i:Nat)(cs:List Cell)(H:Hp)(cM:List V)(vs:Array Value)(n':Nat)(oC:Obj)(m₂:OV)(s:Shared)(Z:Prop):Prop:=∀(hS:cO P.s0 s)(hA:At P.G P.fm cs s H)(hK:dJ P.ub cs)(st:P.St i cs)(hC:(none,P.C,oC)∈cs)(ns:LCg.NsObj oC m₂)(hD:(none,P.D,listOf vs n')∈cs)(hv:dK cM vs.toList)(hX:fK P.Gm P.xs cs P.m),Z
def CB (P:n8 Γ)(i cs H cM vs n' oC m₂ s):=∀Z:Prop,CB.ZF P i cs H cM vs n' oC m₂ s Z->Z
theorem CB.mk:CB.ZF P i cs H cM vs n' oC m₂ s (CB P i cs H cM vs n' oC m₂ s):=λhS hA hK st hC ns hD hv hX _ Z=>Z hS hA hK st hC ns hD hv hX
theorem CB.hS (Z:CB P i cs H cM vs n' oC m₂ s):cO P.s0 s:=Z _ λhS hA hK st hC ns hD hv hX=>hS
theorem CB.hA (Z:CB P i cs H cM vs n' oC m₂ s):At P.G P.fm cs s H:=Z _ λhS hA hK st hC ns hD hv hX=>hA
theorem CB.hK (Z:CB P i cs H cM vs n' oC m₂ s):dJ P.ub cs:=Z _ λhS hA hK st hC ns hD hv hX=>hK
theorem CB.st (Z:CB P i cs H cM vs n' oC m₂ s):P.St i cs:=Z _ λhS hA hK st hC ns hD hv hX=>st
theorem CB.hC (Z:CB P i cs H cM vs n' oC m₂ s):(none,P.C,oC)∈cs:=Z _ λhS hA hK st hC ns hD hv hX=>hC
theorem CB.ns (Z:CB P i cs H cM vs n' oC m₂ s):LCg.NsObj oC m₂:=Z _ λhS hA hK st hC ns hD hv hX=>ns
theorem CB.hD (Z:CB P i cs H cM vs n' oC m₂ s):(none,P.D,listOf vs n')∈cs:=Z _ λhS hA hK st hC ns hD hv hX=>hD
theorem CB.hv (Z:CB P i cs H cM vs n' oC m₂ s):dK cM vs.toList:=Z _ λhS hA hK st hC ns hD hv hX=>hv
theorem CB.hX (Z:CB P i cs H cM vs n' oC m₂ s):fK P.Gm P.xs cs P.m:=Z _ λhS hA hK st hC ns hD hv hX=>hX
def NJ.ZF (P:n8 Γ)(nn:Nat)(s:Shared)(Z:Prop):Prop:=∀(i:Nat)(cs:List Cell)(H:Hp)(cM:List V)(vs:Array Value)(n':Nat)(oC:Obj)(m₂:OV)(e:nn=P.N - i)(hi:i<=P.N)(hl:cM.length<=i)(B:CB P i cs H cM vs n' oC m₂ s)(h:P.go i cM H),Z
def NJ (P:n8 Γ)(nn s):=∀Z:Prop,NJ.ZF P nn s Z->Z
theorem NJ.mk:NJ.ZF P nn s (NJ P nn s):=λi cs H cM vs n' oC m₂ e hi hl B h _ Z=>Z i cs H cM vs n' oC m₂ e hi hl B h
def pZ.ZF (P:n8 Γ)(k n:Nat)(fS:PySem.Expr)(Z:Prop):Prop:=∀(O:P.G.Ok k)(Oc:P.Gm.Ok k)(bp:cE Γ k P.r)(i5:nv Γ k P.r)(T:TurnOk P.G P.Gm P.xs P.m P.src P.bind P.iv P.target P.W P.St)(hm:ME n (dR P.bY) P.elt fS)(y5:P.C∉P.W)(xC:P.D∉P.W)(Bh:P.D≠P.C)(len:P.N<1000)(y6:∀q∈P.ub,q.1=none->q.2.1≠P.C/\q.2.1≠P.D/\q.2.1∉P.W),Z
def pZ (P:n8 Γ)(k n fS):=∀Z:Prop,pZ.ZF P k n fS Z->Z
theorem pZ.mk:pZ.ZF P k n fS (pZ P k n fS):=λO Oc bp i5 T hm y5 xC Bh len y6 _ Z=>Z O Oc bp i5 T hm y5 xC Bh len y6
theorem pZ.O (Z:pZ P k n fS):P.G.Ok k:=Z _ λO Oc bp i5 T hm y5 xC Bh len y6=>O
theorem pZ.Oc (Z:pZ P k n fS):P.Gm.Ok k:=Z _ λO Oc bp i5 T hm y5 xC Bh len y6=>Oc
theorem pZ.bp {P:n8 Γ}(Z:pZ P k n fS):cE Γ k P.r:=Z _ λO Oc bp i5 T hm y5 xC Bh len y6=>bp
theorem pZ.i5 {P:n8 Γ}(Z:pZ P k n fS):nv Γ k P.r:=Z _ λO Oc bp i5 T hm y5 xC Bh len y6=>i5
theorem pZ.T (Z:pZ P k n fS):TurnOk P.G P.Gm P.xs P.m P.src P.bind P.iv P.target P.W P.St:=Z _ λO Oc bp i5 T hm y5 xC Bh len y6=>T
theorem pZ.hm (Z:pZ P k n fS):ME n (dR P.bY) P.elt fS:=Z _ λO Oc bp i5 T hm y5 xC Bh len y6=>hm
theorem pZ.y5 (Z:pZ P k n fS):P.C∉P.W:=Z _ λO Oc bp i5 T hm y5 xC Bh len y6=>y5
theorem pZ.xC (Z:pZ P k n fS):P.D∉P.W:=Z _ λO Oc bp i5 T hm y5 xC Bh len y6=>xC
theorem pZ.Bh (Z:pZ P k n fS):P.D≠P.C:=Z _ λO Oc bp i5 T hm y5 xC Bh len y6=>Bh
theorem pZ.len (Z:pZ P k n fS):P.N<1000:=Z _ λO Oc bp i5 T hm y5 xC Bh len y6=>len
theorem pZ.y6 (Z:pZ P k n fS):∀q∈P.ub,q.1=none->q.2.1≠P.C/\q.2.1≠P.D/\q.2.1∉P.W:=Z _ λO Oc bp i5 T hm y5 xC Bh len y6=>y6
variable {P:n8 Γ}{E:SP}
theorem CB.go (X:pZ P k n fS)(B:CB P i cs H cM vs n' oC m₂ s)(hS:cO s s')(hA:At P.Gm P.fm cs' s' H')(hk:dJ cs cs'):CB P i cs' H' cM vs n' oC m₂ s':=
 (.mk (B.hS.trans hS) (.mk hA.F hA.N hA.R) (B.hK.trans hk) (X.T.keep _ _ _ B.st λq hq hn Z=>hk q hq hn) (hk _ B.hC rfl) B.ns (hk _ B.hD rfl) B.hv (B.hX.keep hk))
theorem Qv (X:pZ P k n fS)(hi:i<P.N)(hl:cM.length<=i)(B:CB P (i+1) cs H cM vs n' oC m₂ s)(hL:aw P.Gm P.fm cs m')(he:P.r.E P.elt m' H λw H=>P.go (i+1) (cM++[w]) H):
  wpAny (model Γ.prog Γ.w) P.G.A (eval fS P.Gm.env) (λx ZD=>wpAny (model Γ.prog Γ.w) P.G.A (call (.builtin "list.append") [.ref P.D,x]) (λZ ZE=>∃m,m<P.N - i/\NJ P m ZE) E ZD) E s:=by
 refine wpAny_mono (X.bp P.Gm X.Oc n P.elt fS m' H _ X.hm he P.fm cs s (.mk B.hA.F B.hA.N B.hA.R) hL) (λx s4 z=>?_) λZ Z z=>z.elim;obtain ⟨z1,Zw,H4,w,z2,z3,z4,z5⟩:=z;have B4:=B.go X z1 z2 z3;have Ah:vs.size<1000:=(B.hv.length.trans Array.length_toList)▸Nat.lt_of_le_of_lt hl (Nat.lt_trans hi X.len);refine append_at (B4.hA.N.get (bO B4.hD)) (λh5 hs5 ho5=>?_) (sz Ah);refine (B4.hA.bump B4.hD hs5 ho5 s4.toks) _ λSA NK hD5 GI=>?_;refine ⟨P.N - (i+1),by omega,(.mk (i+1) SA H4 (cM++[w]) (vs.push x) (n'+1) oC m₂ rfl hi (by rw [List.length_append];exact Nat.succ_le_succ hl) (.mk (B4.hS.trans (.mk rfl rfl rfl)) NK (λq hq hn=>GI q (B4.hK q hq hn) (X.y6 q hq hn).2.1) (X.T.keep _ _ _ B4.st λq hq hn hw=>GI q hq λe=>X.xC (e▸hw)) (GI _ B4.hC (Ne.symm X.Bh)) B.ns hD5 (B4.hv.push z4) (B4.hX.Bg B4.hA.R.nd GI B4.hD Bf)) z5)⟩
theorem Jl (X:pZ P k n fS)(B:CB P P.N cs H cM vs n' oC m₂ s)(h:P.go P.N cM H){Q:Option Value->Shared->Prop}
  (hR:∀cs' s',cO P.s0 s'->At P.G P.fm cs' s' H->dJ P.ub cs'->(none,P.D,listOf vs n')∈cs'->dK cM vs.toList->(none,P.C,oC)∈cs'->LCg.NsObj oC m₂->P.QQ cM H->Q none s'):wpAny (model Γ.prog Γ.w) P.G.A (pyNext P.iv) Q E s:=by
 unfold n8.go at h;replace h:=(List.drop_length)▸h;exact X.T.done B.hA h.1 B.st rfl λh' cs' bJ wz=>hR cs' _ (B.hS.trans (.mk rfl rfl rfl)) bJ (λq hq hn=>wz q (B.hK q hq hn) (X.y6 q hq hn).2.2) (wz _ B.hD X.xC) B.hv (wz _ B.hC X.y5) B.ns h.2
theorem Jm (X:pZ P k n fS)(fX:i<P.N)(B:CB P i cs H cM vs n' oC m₂ s)(h:P.go i cM H){R0:Shared->Prop}
  (next:∀s2 kO UE m2 m',CB P (i+1) kO H cM vs n' UE m2 s2->aw P.Gm P.fm kO m'->(yO P.r P.c m' H λb H=>if b then P.r.E P.elt m' H λw H=>P.go (i+1) (cM++[w]) H else P.go (i+1) cM H)->PP s2):
  wpAny (model Γ.prog Γ.w) P.G.A (pyNext P.iv) (λr s1=>match r with
   |none=>R0 s1
   |some v=>wpAny (model Γ.prog Γ.w) P.G.A (letOwnedTupleGo P.target P.iv v) (λz s0=>wpAny (model Γ.prog Γ.w) P.G.A (assign P.target P.Gm.env v) (λz=>PP) E s0) E s1) E s:=by
 unfold n8.go at h;rw [List.drop_eq_getElem_cons fX] at h;exact X.T.item (P:=λz=>PP) B.hA h.1 B.st B.hC B.ns B.hX (List.getElem?_eq_getElem fX) h.2 λh' tk kO UE m2 m' Z st hq=>next _ kO UE m2 m'
  (.mk (B.hS.trans (.mk rfl rfl rfl)) Z.A (λq hq hn=>Z.k q (B.hK q hq hn) (X.y6 q hq hn).1 (X.y6 q hq hn).2.2) st Z.C Z.ns (Z.k _ B.hD X.Bh X.xC) B.hv Z.X) Z.L hq
theorem y7 (X:pZ P k n fS)(hc:MC (ME n (dR P.bY)) P.c ifs)(h0:NJ P N0 s)
  {R:Result->Shared->Prop}(hR:∀cs' s' H' cM vs nn oC m₂,cO P.s0 s'->At P.G P.fm cs' s' H'->dJ P.ub cs'->(none,P.D,listOf vs nn)∈cs'->dK cM vs.toList->(none,P.C,oC)∈cs'->LCg.NsObj oC m₂->P.QQ cM H'->R (.ok .next) s'):
  codeAny (model Γ.prog Γ.w) P.G.A (.compLoop (.ListComp fS [⟨P.target,iter,ifs,0⟩] P.bY pos) 0 P.iv (.ref P.D) P.Gm.env) R s:=by
 generalize ec:P.c=c at hc;induction hc with
 |none=>
  refine kcp_loop (NJ P) ?_ _ h0;intro nn s1 z;refine z _ λi zZ H1 cM vs n' ZG Jn q6 hi hl B h=>?_;clear z;obtain rfl:=q6;by_cases fX:i<P.N
  ·refine Jm X fX B h λs2 kO UE m2 m' B2 hL he=>?_
   rw [ec] at he;exact Qv X fX hl B2 hL he
  ·obtain rfl:=Nat.le_antisymm hi (Nat.not_lt.mp fX)
   exact Jl X B h λcs' s' a1 a2 a3 a4 a5 a6 a7 a8=>hR cs' s' H1 cM vs n' ZG Jn a1 a2 a3 a4 a5 a6 a7 a8
 |some c p hc=>
  refine kct_loop (NJ P) ?_ _ h0;intro nn s1 z;refine z _ λi zZ H1 cM vs n' ZG Jn q7 hi hl B h=>?_;clear z;obtain rfl:=q7;by_cases fX:i<P.N
  ·refine Jm X fX B h λs2 kO UE m2 m' B2 hL he=>?_
   rw [ec] at he;refine wpAny_mono (X.i5 P.Gm X.Oc n c p m' H1 _ hc he P.fm kO _ (.mk B2.hA.F B2.hA.N B2.hA.R) hL) (λok s3 z=>?_) λZ Z z=>z.elim;obtain ⟨z1,I4,H3,av,z2,z3,z4,z5⟩:=z;have B3:=B2.go X z1 z2 z3;obtain rfl:av=ok:=z4;induction av with
   |false=>exact ⟨P.N - (i+1),by omega,(.mk (i+1) I4 H3 cM vs n' UE m2 rfl fX (Nat.le_succ_of_le hl) B3 z5)⟩
   |true=>exact Qv X fX hl B3 (hL.keep z3) z5
  ·obtain rfl:=Nat.le_antisymm hi (Nat.not_lt.mp fX)
   exact Jl X B h λcs' s' a1 a2 a3 a4 a5 a6 a7 a8=>hR cs' s' H1 cM vs n' ZG Jn a1 a2 a3 a4 a5 a6 a7 a8
end
section
variable {G Gc:Gx Γ}
theorem fK.cellOf (h:fK Gc xs cs m)(h1:z∉xs)(h2:ng Gc.sc z=true)(h3:look z m=some w):AK Gc fm cs z w:=by
 refine (h z w h1 h2 h3) _ λq c o cv q1 q2 q3 q4=>?_;exact .cell q c o cv q1 q2 q3 q4
theorem NL (h:fK Gc [x] cs m)(hl:Gc.sc.names.lookup x.s=some .local)(hC:(none,Gc.loc,oC)∈cs)(hn:LCg.NsObj oC m₂)(e:m₂ x.s=some cv)(hv:VR v cv):aw Gc fm cs (put x v m):=λz w hz hw=>by
 by_cases q:z=x
 ·subst q
  rw [jh] at hw;cases hw;exact .ns hl oC m₂ cv hC hn e hv
 ·rw [iC q] at hw
  exact h.cellOf (λz=>q (List.mem_singleton.mp z)) hz hw
theorem NM (KO:gE Γ){m₂:OV}(h:fK Gc [x,y] cs m)(hl:Gc.sc.names.lookup x.s=some .local)(Cy:Gc.sc.names.lookup y.s=some .local)(hC:(none,Gc.loc,oC)∈cs)
  (hn:LCg.NsObj oC (λz=>if z=y.s then some cv else if z=x.s then some cu else m₂ z)) (hu:VR u cu) (hv:VR v cv):aw Gc fm cs (put y v (put x u m)):=λz w hz hw=>by
 by_cases q:z=y
 ·subst q
  rw [jh] at hw;cases hw;exact .ns Cy oC _ cv hC hn (if_pos rfl) hv
 ·rw [iC q] at hw
  by_cases q':z=x
  ·subst q'
   rw [jh] at hw;cases hw;exact .ns hl oC _ cu hC hn ((if_neg λe=>q (KO.inj _ _ e)).trans (if_pos rfl)) hu
  ·rw [iC q'] at hw
   exact h.cellOf (λz=>(List.mem_cons.mp z).elim q' λz=>q (List.mem_singleton.mp z)) hz hw
theorem rJ (h:noOwn o):qC o:=λv e=>by
 refine h _ λn vs q1 q q2=>?_;rw [q] at e;injection e
theorem qD (O:Gc.Ok k){x:Nm}{E:SP}(hl:Gc.sc.names.lookup x.s=some .local)(hA:At G fm cs s H)(hC:(none,Gc.loc,oC)∈cs)(hn:LCg.NsObj oC m₂)
  (next:∀h' cs' sN,At G fm cs' {s with heap:=h',toks:=s.toks+1} H->(none,Gc.loc,sN)∈cs'->LCg.NsObj sN (λy=>if y=x.s then some cv else m₂ y)->(∀c∈cs,c.2.1≠Gc.loc->c∈cs')->P () {s with heap:=h',toks:=s.toks+1}):
  wG G (storeName Gc.env x.s cv) P E s:=by
 refine wpAny_storeName_local (env:=Gc.env) hl (hn.ns (hA.N.get (bO hC))) (λh' SD hs=>?_) (by show (Gc.sc.kind==.class||(Gc.sc.kind==.module&&Gc.loc !=mainGlobals))=false;refine (O.kind)▸?_;rfl);refine aQ (LCg.ns_obj SD) λsN e uc=>?_;refine (hA.bump hC hs e (s.toks+1)) _ λcs' bJ hC' hk=>?_;exact next h' cs' sN bJ hC' uc hk
theorem tO (KO:gE Γ)(Oc:(G.comp bY cl C).Ok k){E:SP}(hl:bY.names.lookup x.s=some .local)(Cy:bY.names.lookup y.s=some .local)
  (hA:At G fm cs s H)(hC:(none,C,oC)∈cs)(hn:LCg.NsObj oC m₂)(hX:fK (G.comp bY cl C) [x,y] cs m)(hu:VR u cu)(hw:VR w cw)
  (next:∀h' tk cs' sN iE,At G fm cs' {s with heap:=h',toks:=tk} H->(none,C,sN)∈cs'->LCg.NsObj sN iE->aw (G.comp bY cl C) fm cs' (put y w (put x u m))->fK (G.comp bY cl C) [x,y] cs' m->(∀c∈cs,c.2.1≠C->c∈cs')->P () {s with heap:=h',toks:=tk}):
  wG G (assignInOrder [assign (.Name x.s p1) (G.comp bY cl C).env,assign (.Name y.s p2) (G.comp bY cl C).env] [cu,cw]) P E s:=by
 refine assignInOrder_cons (assign_Name (qD Oc (ie hl) hA hC hn λh4 Zw oC4 Ma hC4 hn4 hk4=>?_));refine assignInOrder_cons (assign_Name (qD Oc (ie Cy) Ma hC4 hn4 λh5 SA VO NK UG UH GI=>assignInOrder_nil ?_));have UI:=(hX.Bg hA.R.nd hk4 hC (sO hn)).Bg Ma.R.nd GI hC4 (sO hn4);exact next h5 _ SA VO _ NK UG UH (NM KO UI (ie hl) (ie Cy) UG UH hu hw) UI λq hq Mb=>GI q (hk4 q hq Mb) Mb
def NN.ZF (I:Addr)(Sh:Nat->Obj->Prop)(i:Nat)(cs:List Cell)(Z:Prop):Prop:=∀(o:Obj)(h1:(none,I,o)∈cs)(h2:Sh i o),Z
def NN (I Sh i cs):=∀Z:Prop,NN.ZF I Sh i cs Z->Z
theorem NN.mk:NN.ZF I Sh i cs (NN I Sh i cs):=λo h1 h2 _ Z=>Z o h1 h2
theorem EK (O:G.Ok k)(T:kl G src I Sh)(z0:C≠I){bind:Nat->V->Hp->(Loc->Prop)->Prop}
  (asg:∀{i:Nat}{v:V}{cv:Value}{fm:OV}{cs:List Cell}{s:Shared}{H:Hp}{oC:Obj}{m₂:OV}{Q1:Loc->Prop}{P:Unit->Shared->Prop}{E:SP},At G fm cs s H->(none,C,oC)∈cs->LCg.NsObj oC m₂->fK (G.comp bY cl C) xs cs m->VR v cv->bind i v H Q1->
   (∀h' tk cs' sN iE m',At G fm cs' {s with heap:=h',toks:=tk} H->(none,C,sN)∈cs'->LCg.NsObj sN iE->aw (G.comp bY cl C) fm cs' m'->fK (G.comp bY cl C) xs cs' m->(∀c∈cs,c.2.1≠C->c∈cs')->Q1 m'->P () {s with heap:=h',toks:=tk})->
   wG G (assign target (G.comp bY cl C).env cv) P E s):
  TurnOk G (G.comp bY cl C) xs m src bind (.ref I) target [I] (NN I Sh):=
 .mk (λi cs z a ha=>by refine z _ λo h1 h2=>?_;exact (List.mem_singleton.mp ha).symm▸⟨o,h1,rJ (T.go _ _ h2)⟩)
  (λi cs cs' z hk=>by refine z _ λo h1 h2=>?_;exact (.mk o (hk _ h1 rfl (.head _)) h2))
  (λ{i v fm cs s H oC m₂ Q1 P R0 E} hA A9 z hC hn hX hi hb next=>by
  refine z _ λo h1 h2=>?_;refine T.item G.A O.hh hA A9 h1 h2 hi λcv h' tk kO o2 hv mK HS Du xj=>?_;refine Jf (mK.N.get (bO HS)) (T.go _ _ Du) (asg mK (xj _ hC z0) hn (hX.Bg hA.R.nd xj h1 (rJ (T.go _ _ h2))) hv hb λh3 tk3 I4 ZH m3 m' tK Yt Yu Nc Yv Ir hq=>?_);exact next h3 tk3 I4 ZH m3 m' (.mk tK Yt Yu Nc Yv (λq hq Mb uc=>Ir q (xj q hq λe=>uc (e▸.head _)) Mb)) (.mk o2 (Ir _ HS (Ne.symm z0)) Du) hq)
  (λ{i fm cs s H P E} hA A9 z hi next=>by refine z _ λo h1 h2=>?_;exact T.done G.A O.hh hA A9 h1 h2 hi λh' cs' bJ hk=>next h' cs' bJ λc hc hn=>hk c hc λe=>hn (e▸.head _))
  (λhA z hP=>by refine z _ λo h1 h2=>?_;exact T.self G.A (hA.N.get (bO h1)) h2 hP)
theorem Qw (O:G.Ok k)(Oc:(G.comp bY cl C).Ok k)(T:kl G src I Sh)(hl:bY.names.lookup x.s=some .local)(z0:C≠I):
  TurnOk G (G.comp bY cl C) [x] m src (λZ v H Q=>bind1 x v m H Q) (.ref I) (.Name x.s p) [I] (NN I Sh):=
 EK O T z0 λ{i v cv fm cs s H oC m₂ Q1 P E} hA hC hn hX hv hb next=>assign_Name (qD Oc (ie hl) hA hC hn λh3 I4 ZH tK Yt Yu Ir=>by
  have Yv:=hX.Bg hA.R.nd Ir hC (sO hn);exact next h3 _ I4 ZH _ _ tK Yt Yu (NL Yv (ie hl) Yt Yu (if_pos rfl) hv) Yv Ir hb)
theorem dK.pair (r:dK [u,w] l):∃cu cw,l=[cu,cw]/\VR u cu/\VR w cw:=by
 induction l using List.casesOn with
 |nil=>exact r.elim
 |cons c1 l=>
  refine aQ (dK.Vx r.2) λc2 dp h2=>?_;subst dp;exact ⟨c1,c2,rfl,r.1,h2⟩
theorem EL (KO:gE Γ)(O:G.Ok k)(Oc:(G.comp bY cl C).Ok k)(T:kl G src I Sh)(hl:bY.names.lookup x.s=some .local)(Cy:bY.names.lookup y.s=some .local)(z0:C≠I):
  TurnOk G (G.comp bY cl C) [x,y] m src (λZ v H Q=>uR x y v m H Q) (.ref I) (.Tuple [.Name x.s p1,.Name y.s p2] kk p) [I] (NN I Sh):=
 EK O T z0 λ{i v cv fm cs s H oC m₂ Q1 P E} hA hC hn hX hv hb next=>by
  cases (show Ep H (λa b=>Q1 (put y b (put x a m))) v from hb) with|mk a u w oR UC=>
  refine (show cv=_ from hv)▸?_;refine (hA.isTup oR) _ λl i1 r1=>?_;refine nK r1.pair λcu cw dp ru rw'=>?_;subst dp;refine unpackN_ hA.F hA.N i1 O.hh rfl rfl λh3 F3 N3=>?_;exact tO (s:={s with heap:=h3}) KO Oc hl Cy (.mk F3 N3 hA.R) hC hn hX ru rw' λh5 tk SA VO m5 NK UG UH VQ UI GI=>next h5 tk SA VO m5 _ NK UG UH VQ UI GI UC
end
section
variable {G Gc:Gx Γ}
theorem At.y8 (hA:At G fm cs s H)(hh:s'.heap=h')(F':Fr G.h₀ G.L h' fm)(N':News G.h₀ G.L h' ((s.heap.objs.size,o)::nw cs)):At G fm ((none,s.heap.objs.size,o)::cs) s' H:=
 (.mk (hh▸F') (hh▸N') (by
  refine (.mk ?_ (λb ob hb=>(hA.R.rep b ob hb).more λc hc=>.tail _ hc));rw [List.map_cons,List.nodup_cons];refine ⟨λq=>?_,hA.R.nd⟩;refine aQ (List.mem_map.mp q) λc hc e=>?_;exact fresh_ne hA c hc e))
set_option tactic.hygienic true in
theorem At.own (O:G.Ok k)(hA:At G fm cs s H)(hm:(none,D,ob)∈cs)(ho:i4 Γ.X [(some D,D,ob)] D o):
  H D=none/\At G fm ((some D,D,ob)::cs.filter λc=>decide (c.2.1≠D)) s (H.upd D o):=by
 have hN:=hA.N _ (bO hm);refine ⟨?_,(.mk hA.F (λp hp=>?_) (.mk ?_ (λb o' hb=>?_)))⟩
 ·induction q:H D with
  |none=>rfl
  |some o'=>
   exfalso;have h:=hA.R.rep _ _ q;have z:∀ob',(some D,D,ob')∈cs->False:=λob' CI=>by
    have:=o8 hA.R.nd _ CI _ hm rfl;cases congrArg Prod.fst this
   induction o' with
   |inst c fs=>refine h _ λ_ _ _ h1 _ _ _ _=>?_;exact z _ h1
   |list xs=>refine h _ λ_ _ h1 _=>?_;exact z _ h1
   |tuple xs=>refine h _ λ_ _ h1 _=>?_;exact z _ h1
   |dict ds=>refine h _ λ_ _ h1 _ _ _=>?_;exact z _ h1
   |bytes=>refine h _ λ_ h1=>?_;exact z _ h1
   |ro xs=>
    refine h _ λvs h1 _=>?_;refine aQ h1 λo ho Z=>?_;have:=hN.2.2;rw [O.ro _ _ ho] at this;injection this
 ·refine aQ (List.mem_map.mp hp) λc hc dp=>?_
  subst dp;rcases List.mem_cons.mp hc with rfl|hc
  ·exact hN
  ·exact hA.N _ (bO (List.mem_filter.mp hc).1)
 ·rw [List.map_cons,List.nodup_cons]
  refine ⟨λq=>?_,List.Sublist.nodup (List.Sublist.map _ List.filter_sublist) hA.R.nd⟩;refine aQ (List.mem_map.mp q) λc hc e=>?_;exact of_decide_eq_true (List.mem_filter.mp hc).2 e
 ·unfold Hp.upd at hb
  split at hb
  ·rename_i e;subst e;cases hb
   exact ho.more λc hc=>by simp only [List.mem_singleton.mp hc];exact .head _
  ·exact ((hA.R.rep b o' hb).drop hA.R.nd hm).more λc hc=>.tail _ hc
def xD.ZF {Γ:Cx}(G:Gx Γ)(k:Nat)(fm:OV)(cs:List Cell)(s:Shared)(bY:Scope)(xs:List Nm)(m:Loc)(bind:Nat->V->Hp->(Loc->Prop)->Prop)(target:PySem.Expr)(Q:Src->Hp->Prop)(iv:Value)(s2:Shared)(Z:Prop):Prop:=∀(W:List Addr)(St:Nat->List Cell->Prop)(src:Src)(kO:List Cell)(H2:Hp)(hS:cO s s2)(hA:At G fm kO s2 H2)(hK:dJ cs kO)(hI:∀q∈cs,q.1=none->q.2.1∉W) (hW:∀a∈W,∃o,(none,a,o)∈kO) (st:St 0 kO) (T:∀cl C,C∉W->(G.comp bY cl C).Ok k->TurnOk G (G.comp bY cl C) xs m src bind iv target W St) (hQ:Q src H2),Z
def xD {Γ}(G k fm cs s bY xs m bind target Q iv s2):=∀Z:Prop,xD.ZF (Γ:=Γ) G k fm cs s bY xs m bind target Q iv s2 Z->Z
theorem xD.mk {G:Gx Γ}{bind}:xD.ZF (Γ:=Γ) G k fm cs s bY xs m bind target Q iv s2 (xD (Γ:=Γ) G k fm cs s bY xs m bind target Q iv s2):=λW St src kO H2 hS hA hK hI hW st T hQ _ Z=>Z W St src kO H2 hS hA hK hI hW st T hQ
abbrev Bi {Γ:Cx}(G:Gx Γ)(k:Nat)(fm:OV)(cs:List Cell)(s:Shared)(bY:Scope)(xs:List Nm)(m:Loc)(bind:Nat->V->Hp->(Loc->Prop)->Prop)(target:PySem.Expr)(Q:Src->Hp->Prop)(gZ:PySem.Expr):Prop:=
 wG G (eval gZ G.env) (λx s1=>wG G (pyIter x) (xD G k fm cs s bY xs m bind target Q) nE s1) nE s
def i7.ZF (G:Gx Γ)(fm:OV)(cs:List Cell)(s:Shared)(Q:VP)(D C:Addr)(cs':List Cell)(s':Shared)(H':Hp)(cM:List V)(vs:Array Value)(nn:Nat)(oC:Obj)(m₂:OV)(Z:Prop):Prop:=∀(hS:cO s s')(hA:At G fm cs' s' H')(hK:dJ cs cs')(hF:∀q∈cs,q.1=none->q.2.1≠C/\q.2.1≠D) (z7:C≠D) (hD:(none,D,listOf vs nn)∈cs') (hv:dK cM vs.toList) (hC:(none,C,oC)∈cs') (ns:LCg.NsObj oC m₂) (q:Internal.alloc H' (.list cM) Q),Z
def i7 (G:Gx Γ)(fm cs s Q D C cs' s' H' cM vs nn oC m₂):=∀Z:Prop,i7.ZF G fm cs s Q D C cs' s' H' cM vs nn oC m₂ Z->Z
theorem i7.mk:i7.ZF G fm cs s Q D C cs' s' H' cM vs nn oC m₂ (i7 G fm cs s Q D C cs' s' H' cM vs nn oC m₂):=λhS hA hK hF z7 hD hv hC ns q _ Z=>Z hS hA hK hF z7 hD hv hC ns q
theorem i7.hS (Z:i7 G fm cs s Q D C cs' s' H' cM vs nn oC m₂):cO s s':=Z _ λhS hA hK hF z7 hD hv hC ns q=>hS
theorem i7.hA (Z:i7 G fm cs s Q D C cs' s' H' cM vs nn oC m₂):At G fm cs' s' H':=Z _ λhS hA hK hF z7 hD hv hC ns q=>hA
theorem i7.hK (Z:i7 G fm cs s Q D C cs' s' H' cM vs nn oC m₂):dJ cs cs':=Z _ λhS hA hK hF z7 hD hv hC ns q=>hK
theorem i7.hF (Z:i7 G fm cs s Q D C cs' s' H' cM vs nn oC m₂):∀q∈cs,q.1=none->q.2.1≠C/\q.2.1≠D:=Z _ λhS hA hK hF z7 hD hv hC ns q=>hF
theorem i7.z7 (Z:i7 G fm cs s Q D C cs' s' H' cM vs nn oC m₂):C≠D:=Z _ λhS hA hK hF z7 hD hv hC ns q=>z7
theorem i7.hD (Z:i7 G fm cs s Q D C cs' s' H' cM vs nn oC m₂):(none,D,listOf vs nn)∈cs':=Z _ λhS hA hK hF z7 hD hv hC ns q=>hD
theorem i7.hv (Z:i7 G fm cs s Q D C cs' s' H' cM vs nn oC m₂):dK cM vs.toList:=Z _ λhS hA hK hF z7 hD hv hC ns q=>hv
theorem i7.hC (Z:i7 G fm cs s Q D C cs' s' H' cM vs nn oC m₂):(none,C,oC)∈cs':=Z _ λhS hA hK hF z7 hD hv hC ns q=>hC
theorem i7.ns (Z:i7 G fm cs s Q D C cs' s' H' cM vs nn oC m₂):LCg.NsObj oC m₂:=Z _ λhS hA hK hF z7 hD hv hC ns q=>ns
theorem i7.q (Z:i7 G fm cs s Q D C cs' s' H' cM vs nn oC m₂):Internal.alloc H' (.list cM) Q:=Z _ λhS hA hK hF z7 hD hv hC ns q=>q
theorem rK (KO:gE Γ)(O:G.Ok k)(bp:cE Γ k r)(i5:nv Γ k r)(Cz:iB G.sc bY xs=true)(Aj:∀z,(z,NameKind.free)∈bY.names->cl.lookup z=G.cl.lookup z)
  {bind:Nat->V->Hp->(Loc->Prop)->Prop} {target:PySem.Expr}
  {elt:Internal.E} {c:Option Internal.E} {gZ fS:PySem.Expr} {ifs:List PySem.Expr} {pos:Pos} {Q:VP} (hm:ME n (dR bY) elt fS) (hc:MC (ME n (dR bY)) c ifs)
  (Bj:Bi G k fm cs s bY xs m bind target (λs H=>s.items.length<1000/\iA r elt bind s c 0 s.items [] H λvs H=>Internal.alloc H (.list vs) Q) gZ)
  (hL:aw G fm cs m) {R:Value->Addr->Result->Shared->Prop}
  (hR:∀D C cs' s' H' cM vs nn oC m₂,i7 G fm cs s Q D C cs' s' H' cM vs nn oC m₂->R (.ref D) C (.ok .next) s'):
  wG G (eval gZ G.env) (λx s1=>wG G (pyIter x) (λiv s2=>wG G (newList []) (λacc s3=>wG G (newFunctionEnv bY G.env.globals cl [] G.env.qual none .none (some G.env)) (λVS s4=>
   codeAny (model Γ.prog Γ.w) G.A (.compStart (.ListComp fS [⟨target,gZ,ifs,0⟩] bY pos) 0 iv acc {VS with scope:=relabel bY G.env}) (R acc VS.locals) s4) nE s3) nE s2) nE s1) nE s:=by
 have p:=bG Cz;refine wpAny_mono Bj (λx s1 z=>wpAny_mono z (λiv s2 z=>?_) λZ Z z=>z.elim) λZ Z z=>z.elim;refine z _ λW St src kO H2 Ai mK AY VT hW2 ZI Jo q8=>?_;obtain ⟨hlen,hgo⟩:=q8;refine newList_N mK.F mK.N (λh3 F3 N3=>?_) (by decide);have tK:At G fm ((none,s2.heap.objs.size,listOf #[] 0)::kO) {s2 with heap:=h3} H2:=mK.y8 rfl F3 N3;refine wpAny_newFunctionEnv p.p2 (by intro y hy;contradiction) (λh4 Nk L5=>?_) p.p1;refine aQ (LCg.ns_obj Nk) λoC eC hnC=>?_;have Ma:=tK.y8 (s':={s2 with heap:=h4,toks:=s2.toks+([]:List (Str×Value)).length}) (o:=oC) rfl (tK.F.filled L5) (News.filled tK.F tK.N L5 eC);generalize hC:h3.objs.size=C at Nk L5 eC hnC Ma ⊢;have fr:∀q∈(none,s2.heap.objs.size,listOf #[] 0)::kO,q.2.1≠C:=hC▸fresh_ne tK;have z7:C≠s2.heap.objs.size:=Ne.symm (fr _ (.head _));have y5:C∉W:=λhw=>by
  obtain ⟨o,ho⟩:=hW2 _ hw;exact fr _ (.tail _ ho) rfl
 have xC:s2.heap.objs.size∉W:=λhw=>by
  obtain ⟨o,ho⟩:=hW2 _ hw;exact fresh_ne mK _ ho rfl
 have Oc:(G.comp bY cl C).Ok k:=NI O Cz Aj;have TT:=Jo cl C y5 Oc;have d0:St 0 ((none,C,oC)::(none,s2.heap.objs.size,listOf #[] 0)::kO):=TT.keep _ _ _ ZI λq hq Z Z=>.tail _ (.tail _ hq);have Qu:dJ cs ((none,C,oC)::(none,s2.heap.objs.size,listOf #[] 0)::kO):=λq hq hn=>.tail _ (.tail _ (AY q hq hn));have hF:∀q∈cs,q.1=none->q.2.1≠C/\q.2.1≠s2.heap.objs.size:=λq hq hn=>⟨fr q (.tail _ (AY q hq hn)),fresh_ne mK q (AY q hq hn)⟩;have loop:codeAny (model Γ.prog Γ.w) G.A (.compLoop (.ListComp fS [⟨target,gZ,ifs,0⟩] bY pos) 0 iv (.ref s2.heap.objs.size) (G.comp bY cl C).env) (R (.ref s2.heap.objs.size) C) {s2 with heap:=h4,toks:=s2.toks+([]:List (Str×Value)).length}:=
  y7 (s:={s2 with heap:=h4,toks:=s2.toks+([]:List (Str×Value)).length}) (P:=⟨G,bY,cl,C,s2.heap.objs.size,fm,r,xs,m,src,bind,iv,target,W,St,elt,c,cs,s,λvs H=>Internal.alloc H (.list vs) Q⟩) (.mk O Oc bp i5 TT hm y5 xC (Ne.symm z7) hlen (λq hq hn=>⟨(hF q hq hn).1,(hF q hq hn).2,VT q hq hn⟩)) hc
   (.mk 0 _ H2 [] (#[]) 0 oC _ rfl (Nat.zero_le _) (Nat.le_refl _) (.mk (.mk Ai.g Ai.o Ai.o) Ma Qu d0 (.head _) hnC (.tail _ (.head _)) trivial (fK.of KO Cz Aj (hL.keep Qu))) hgo)
   λcs' s' H' cM vs nn oC m₂ a1 a2 a3 a4 a5 a6 a7 a8=>hR _ _ cs' s' H' cM vs nn oC m₂ (.mk a1 a2 a3 hF z7 a4 a5 a6 a7 a8)
 rw [<- Jk Cz] at loop;exact codeAny_compStart_list loop (TT.self Ma d0 loop)
theorem lY (GO:iN Γ)(bp:cE Γ k r)(O:G.Ok k){bind:Nat->V->Hp->(Loc->Prop)->Prop}
  (Jo:∀cl C src I Sh,kl G src I Sh->C≠I->(G.comp bY cl C).Ok k->TurnOk G (G.comp bY cl C) xs m src bind (.ref I) target [I] (NN I Sh))
  (dw:gX it=true) (SE:MI (ME n G.sc) G.sc it gZ) (h:wW r it m H Q) (hA:At G fm cs s H) (hL:aw G fm cs m):Bi G k fm cs s bY xs m bind target Q gZ:=by
 refine wpAny_mono (rH GO bp O dw SE h hA hL) (λx s1 z=>wpAny_mono z (λiv s2 z=>?_) λZ Z z=>z.elim) λZ Z z=>z.elim;refine z _ λI src Sh kO H2 o q9 Ai mK AY VT HS Du T hQ=>?_;clear z;obtain rfl:=q9;exact (.mk [I] _ src kO H2 Ai mK AY (λq hq hn z=>VT q hq hn (List.mem_singleton.mp z)) (λa ha=>(List.mem_singleton.mp ha).symm▸⟨o,HS⟩) (.mk o HS Du) (λcl C hC Oc=>Jo cl C src I Sh T (λe=>hC (e▸.head _)) Oc) hQ)
end
section
variable {G Gc:Gx Γ}
def GJ.ZF (G:Gx Γ)(bY:Scope)(Z:Prop):Prop:=∀(cl:List (Str×Addr))(h:closureFor bY G.env=pure cl)(Aj:∀z,(z,NameKind.free)∈bY.names->cl.lookup z=G.cl.lookup z),Z
def GJ (G:Gx Γ)(bY):=∀Z:Prop,GJ.ZF G bY Z->Z
theorem GJ.mk:GJ.ZF G bY (GJ G bY):=λcl h Aj _ Z=>Z cl h Aj
theorem xE (O:G.Ok k)(Cz:iB G.sc bY xs=true):GJ G bY:=by
 refine aQ (Dw (env:=G.env) λy hy e=>O.cells _ ((bG Cz).p4 y hy e).2) λcl h1 h2=>?_;exact (.mk cl h1 h2)
def GK.ZF (G:Gx Γ)(n6:OV)(cs:List Cell)(s':Shared)(Q:VP)(D:Addr)(Z:Prop):Prop:=∀(IP:List Cell)(Qq:Hp)(A:At G n6 IP s' Qq)(K:dJ cs IP)(q:Q (.ref D) Qq),Z
def GK (G:Gx Γ)(n6 cs s' Q D):=∀Z:Prop,GK.ZF G n6 cs s' Q D Z->Z
theorem GK.mk:GK.ZF G n6 cs s' Q D (GK G n6 cs s' Q D):=λIP Qq A K q _ Z=>Z IP Qq A K q
theorem Bk (O:G.Ok k)(E:i7 G fm cs s Q D C cs' s' H' cM vs nn oC m₂)(bJ:At G n6 cs' s2 H')(hs:Heap.SameBut C s2.heap h'):GK G n6 cs {s2 with heap:=h'} Q D:=by
 refine (bJ.drop E.hC hs.extBut) _ λkO mK xj=>?_;refine cX (At.own O mK (o:=.list cM) (xj _ E.hD (Ne.symm E.z7)) (.mk vs nn (.head _) E.hv)) λh1 h2=>?_;exact (.mk _ _ h2 (λq VU SD=>.tail _ (List.mem_filter.mpr ⟨xj q (E.hK q VU SD) (E.hF q VU SD).1,decide_eq_true (E.hF q VU SD).2⟩)) (E.q _ h1))
theorem NO (O:G.Ok k)(hx:bz G.sc z=true)(h:sE G.sc z.s p v):swapsWith v (some (.Name z.s p)) l G.env=pure true:=by
 induction h with|mk fS cls bY pos h1 h2 h3=>
 have e1:G.env.kindOf z.s=some .local:=beq_iff_eq.mp hx;have e2:G.env.blockKind=.function:=by
  refine (?_:(if G.sc.kind.isAnnotationScope=true then ScopeKind.function else G.sc.kind)=ScopeKind.function);rw [O.kind];rfl
 refine congrArg (pure:Bool->Sem Bool) (?_:(G.env.blockKind==.function&&G.env.kindOf z.s==some .local&&p.line==pos.line&&!(bY.names.any λn=>n.1==z.s&&(n.2==.local||n.2==.cell)))=true);simp only [e1,e2,h2,h3];rfl
theorem n9 (KO:gE Γ)(O:G.Ok k)(bp:cE Γ k r)(i5:nv Γ k r)(Cz:iB G.sc bY xs=true){bind:Nat->V->Hp->(Loc->Prop)->Prop}
  {elt:Internal.E}{c:Option Internal.E}{gZ fS:PySem.Expr}{ifs:List PySem.Expr}{pos:Pos}{it:It}{Q:VP}(hs:MI (ME n G.sc) G.sc it gZ)(hm:ME n (dR bY) elt fS)(hc:MC (ME n (dR bY)) c ifs)
  (Bj:Bi G k fm cs s bY xs m bind target (λs H=>s.items.length<1000/\iA r elt bind s c 0 s.items [] H λvs H=>Internal.alloc H (.list vs) Q) gZ)
  (hL:aw G fm cs m):wG G (eval (.ListComp fS [⟨target,gZ,ifs,0⟩] bY pos) G.env) (bb G fm cs s VR Q) nE s:=by
 refine (xE O Cz) _ λcl Jp Aj=>?_;simp only [eval_ListComp];refine wpAny_comprehension_free (use:=none) rfl (lX hs) Jp (bG Cz).p1 (λy hy e=>((bG Cz).p3 y hy e).1) ?_;refine rK KO O bp i5 Cz Aj hm hc Bj hL λD C cs' s' H' cM vs nn oC m₂ E=>⟨m₂,E.ns.ns (E.hA.N.get (bO E.hC)),λh' hs=>?_⟩;refine (Bk O E E.hA hs) _ λkO H2 mK AY hQ=>?_;exact .mk (av:=.ref D) (E.hS.trans (.mk rfl rfl rfl)) mK AY rfl hQ
theorem og (KO:gE Γ)(O:G.Ok k)(de:G.loc=G.L)(bp:cE Γ k r)(i5:nv Γ k r)(Cz:iB G.sc bY xs=true)(hz:bz G.sc z=true)
  {bind:Nat->V->Hp->(Loc->Prop)->Prop}{target:PySem.Expr}
  {elt:Internal.E}{c:Option Internal.E}{gZ fS:PySem.Expr}{ifs:List PySem.Expr}{p pos NP:Pos}{it:It}{Q:FP}(VV:sE G.sc z.s p (.ListComp fS [⟨target,gZ,ifs,0⟩] bY pos))(hs:MI (ME n G.sc) G.sc it gZ)(hm:ME n (dR bY) elt fS)(hc:MC (ME n (dR bY)) c ifs)
  (Bj:Bi G k fm cs s bY xs m bind target (λs H=>s.items.length<1000/\iA r elt bind s c 0 s.items [] H λvs H=>Internal.alloc H (.list vs) λv H=>Q .next (put z v m) H) gZ) (hL:aw G fm cs m):
  wG G (exec (.Assign [.Name z.s p] (.ListComp fS [⟨target,gZ,ifs,0⟩] bY pos) NP) G.env) (dj G cs s Q) nE s:=by
 refine (xE O Cz) _ λcl Jp Aj=>?_;refine (exec_Assign_Name_used _ _ _ _ (NO O hz VV))▸?_;refine wpAny_bind (wpAny_standAt (wpAny_bind ?_));refine wpAny_bind (wpAny_mono (wpAny_comprehension_free (use:=some (assign (.Name z.s p) G.env)) (Q:=λZ s'=>dj G cs s Q .next s') rfl (lX hs) Jp (bG Cz).p1 (λy hy e=>((bG Cz).p3 y hy e).1) ?_) (λZ s' hq=>wpAny_pure (wpAny_pure hq)) λZ Z e=>e);refine rK KO O bp i5 Cz Aj hm hc Bj hL λD C cs' s' H' cM vs nn oC m₂ E=>?_;refine assign_Name (ic KO de O (v:=.ref D) hz rfl E.hA (hL.keep E.hK) λs3 Ct tK Nc=>⟨m₂,E.ns.ns (tK.N.get (bO E.hC)),λh' hs=>?_⟩);refine (Bk O E tK hs) _ λkO H2 mK AY hQ=>?_;exact .mk ((E.hS.trans Ct).trans (.mk rfl rfl rfl)) mK AY ((hL.put KO de hz (v:=.ref D) (cv:=.ref D) rfl).keep AY) .next hQ
end
noncomputable abbrev y9 (it:Addr)(i:Int)(old:Value):Obj:={cls:=.type "enumerate",dict:=none,data:=.fields #[.none,.bool false,.ref it,rawInt i,.none,old],slots:=#[]}
section
variable {G Gc:Gx Γ}
def xF.ZF (G:Gx Γ)(fm:OV)(cs:List Cell)(s:Shared)(H:Hp)(e it:Addr)(Qx Mc:Obj)(Z:Prop):Prop:=∀(cs':List Cell)(A:At G fm cs' s H)(h1:(none,e,Qx)∈cs')(h2:(none,it,Mc)∈cs')(k:∀c∈cs,c.2.1≠e->c.2.1≠it->c∈cs'),Z
def xF (G:Gx Γ)(fm cs s H e it Qx Mc):=∀Z:Prop,xF.ZF G fm cs s H e it Qx Mc Z->Z
theorem xF.mk:xF.ZF G fm cs s H e it Qx Mc (xF G fm cs s H e it Qx Mc):=λcs' A h1 h2 k _ Z=>Z cs' A h1 h2 k
theorem At.pW (hA:At G fm cs s H)(he:(none,e,oe)∈cs)(hi:(none,it,oi)∈cs)(dw:e≠it)(hk:∀b o,b≠e->b≠it->s.heap.get? b=some o->h'.get? b=some o) (h1:h'.get? e=some Qx) (h2:h'.get? it=some Mc) (tk:Nat):xF G fm cs {s with heap:=h',toks:=tk} H e it Qx Mc:=by
 have ze:=hA.N _ (bO he);have zi:=hA.N _ (bO hi);have f1:∀c∈(cs.filter λc=>decide (c.2.1≠e)).filter λc=>decide (c.2.1≠it),c∈cs/\c.2.1≠e/\c.2.1≠it:=λc hc=>by
  refine cX (List.mem_filter.mp hc) λa b=>?_;refine cX (List.mem_filter.mp a) λa1 a2=>?_;exact ⟨a1,of_decide_eq_true a2,of_decide_eq_true b⟩
 have U9:(none,it,oi)∈cs.filter λc=>decide (c.2.1≠e):=List.mem_filter.mpr ⟨hi,decide_eq_true (Ne.symm dw)⟩;have nd2:((cs.filter λc=>decide (c.2.1≠e)).map (·.2.1)).Nodup:=List.Sublist.nodup (List.Sublist.map _ List.filter_sublist) hA.R.nd;refine (.mk ((none,e,Qx)::(none,it,Mc)::(cs.filter λc=>decide (c.2.1≠e)).filter λc=>decide (c.2.1≠it)) (.mk ?_ (λp hp=>?_) (.mk ?_ (λb o hb=>?_))) (.head _) (.tail _ (.head _)) (λc hc n1 n2=>.tail _ (.tail _ (List.mem_filter.mpr ⟨List.mem_filter.mpr ⟨hc,decide_eq_true n1⟩,decide_eq_true n2⟩))))
 ·have F:=hA.F
  exact ⟨F.ns.at' λo q=>hk _ o (Ne.symm ze.2.1) (Ne.symm zi.2.1) q,λb o q=>hk b o (λz=>by rw [z,ze.2.2] at q;injection q) (λz=>by rw [z,zi.2.2] at q;injection q) (F.keep b o q),F.above⟩
 ·refine aQ (List.mem_map.mp hp) λc hc dp=>?_
  subst dp;rcases List.mem_cons.mp hc with rfl|hc
  ·exact ⟨h1,ze.2⟩
  ·rcases List.mem_cons.mp hc with rfl|hc
   ·exact ⟨h2,zi.2⟩
   ·refine gC (f1 c hc) λa b c'=>?_
    have z:=hA.N _ (bO a);exact ⟨hk _ _ b c' z.1,z.2⟩
 ·rw [List.map_cons,List.map_cons,List.nodup_cons,List.nodup_cons]
  refine ⟨λq=>?_,λq=>?_,List.Sublist.nodup (List.Sublist.map _ List.filter_sublist) nd2⟩
  ·rcases List.mem_cons.mp q with q|q
   ·exact dw q
   ·refine aQ (List.mem_map.mp q) λc hc e2=>?_
    exact (f1 c hc).2.1 e2
  ·refine aQ (List.mem_map.mp q) λc hc e2=>?_
   exact (f1 c hc).2.2 e2
 ·exact (((hA.R.rep b o hb).drop hA.R.nd he).drop nd2 U9).more λc hc=>.tail _ (.tail _ hc)
def NQ.ZF (e it l:Addr)(i:Nat)(cs:List Cell)(Z:Prop):Prop:=∀(old:Value)(h1:(none,e,y9 it i old)∈cs)(o:Obj)(h2:(none,it,o)∈cs)(h3:Zv l i o),Z
def NQ (e it l i cs):=∀Z:Prop,NQ.ZF e it l i cs Z->Z
theorem NQ.mk:NQ.ZF e it l i cs (NQ e it l i cs):=λold h1 o h2 h3 _ Z=>Z old h1 o h2 h3
theorem NQ.own (z:NQ e it l i cs):∀a∈[e,it],∃o,(none,a,o)∈cs/\qC o:=λa ha=>by
 refine z _ λold h1 o h2 h3=>?_;rcases List.mem_cons.mp ha with rfl|ha
 ·exact ⟨_,h1,λv z=>by injection z⟩
 ·rw [List.mem_singleton.mp ha];exact ⟨o,h2,λv z=>by rw [h3.2] at z;injection z⟩
theorem NR (h:a∉[e,it]):a≠e/\a≠it:=⟨λz=>h (z▸.head _),λz=>h (z▸.tail _ (.head _))⟩
theorem VW (KO:gE Γ)(O:G.Ok k)(Oc:(G.comp bY cl C).Ok k)(dw:e≠it)(hl:bY.names.lookup x.s=some .local)(Cy:bY.names.lookup y.s=some .local)(hC:C∉[e,it]):
  TurnOk G (G.comp bY cl C) [x,y] m (.seq l (.list xs) xs) (λk v Z Q=>Q (put y v (put x (.int k) m))) (.ref e) (.Tuple [.Name x.s p1,.Name y.s p2] kk p) [e,it] (NQ e it l):=
 .mk (λi cs z=>z.own)
  (λi cs cs' z hk=>by refine z _ λold h1 o h2 h3=>?_;exact (.mk old (hk _ h1 rfl (.head _)) o (hk _ h2 rfl (.tail _ (.head _))) h3))
  (λ{i v fm cs s H oC m₂ Q1 P R0 E} hA A9 z hCm hn hX hi hb next=>by
  have zo:=z.own;refine z _ λold h1 o h2 h3=>?_;refine (hA.isList (show H l=some (.list xs) from A9)) _ λvs i1 r1=>?_;refine aQ (r1.get hi) λcv e1 e2=>?_;refine cX (NR hC) λhCe hCi=>?_;refine wpAny_pyNext_enum_item (i:=i) (hA.N.get (bO h1)) ⟨o,hA.N.get (bO h2),h3⟩ i1 (by simpa using e1) dw λh' hE hit hT Ah hk=>?_;refine wpAny_letOwnedTupleGo_enum hE λlU hE' SF=>?_;refine aQ hit λMc hoi hsi=>?_;have Zg:IsTup lU s.heap.objs.size #[.int i s.toks,cv]:=⟨_,SF.extBut _ _ (Ne.symm (fresh_ne hA _ h1)) hT,rfl,_,rfl⟩;have hE2:lU.get? e=some (y9 it ((i+1:Nat):Int) cv):=hE';refine (hA.pW h1 h2 dw (λb o n1 n2 q=>SF.extBut b o n1 (hk b o n1 n2 q)) hE2 (SF.extBut _ _ (Ne.symm dw) hoi) (s.toks+1)) _ λkO mK ZJ U9 xj=>?_;have Ir:∀c∈cs,c.2.1∉[e,it]->c∈kO:=λq hq Ys=>xj q hq (NR Ys).1 (NR Ys).2;refine unpackN_ mK.F mK.N Zg O.hh rfl rfl λNn F3 N3=>?_;refine tO (s:={s with heap:=Nn,toks:=s.toks+1}) (u:=.int i) KO Oc hl Cy (.mk F3 N3 mK.R) (Ir _ hCm hC) hn (hX.move hA.R.nd Ir zo) ⟨_,rfl⟩ e2 λh5 tk SA VO m5 NK UG UH VQ UI GI=>?_;exact next h5 tk SA VO m5 _ (.mk NK UG UH VQ UI (λq hq Mb uc=>GI q (Ir q hq uc) Mb)) (.mk cv (GI _ ZJ (Ne.symm hCe)) Mc (GI _ U9 (Ne.symm hCi)) hsi) hb)
  (λ{i fm cs s H P E} hA A9 z hi next=>by
  refine z _ λold h1 o h2 h3=>?_;refine (hA.isList (show H l=some (.list xs) from A9)) _ λvs i1 r1=>?_;refine wpAny_pyNext_enum_end (i:=i) O.hh (hA.N.get (bO h1)) ⟨o,hA.N.get (bO h2),h3⟩ i1 (by rw [show i=vs.length from hi.trans r1.length];simp) λh' hk=>?_;refine (hA.drop h2 hk) _ λcs' bJ wz=>?_;exact next h' cs' bJ λc hc hn=>wz c hc (NR hn).2)
  (λhA z hP=>by refine z _ λold h1 o h2 h3=>?_;exact PySem.wpAny_pyIter_enum (hA.N.get (bO h1)) hP)
theorem At.VX (hA:At G fm cs s H)(hk:∀b o,s.heap.get? b=some o->h'.get? b=some o) (h1:h'.get? s.heap.objs.size=some o1) (h2:h'.get? (s.heap.objs.size+1)=some o2) (hs:s'.heap=h'):
  At G fm ((none,s.heap.objs.size+1,o2)::(none,s.heap.objs.size,o1)::cs) s' H:=by
 have fr0:∀b,s.heap.objs.size<=b->G.h₀.get? b=none:=λb hb=>by
  induction q:G.h₀.get? b with
  |none=>rfl
  |some o=>exact absurd (Nat.lt_of_lt_of_le (Heap.lt_size (hA.F.keep _ _ q)) hb) (Nat.lt_irrefl _)
 refine (.mk (hs▸hA.F.keeps hk) (λp hp=>?_) (.mk ?_ (λb o' hb=>(hA.R.rep b o' hb).more λc hc=>.tail _ (.tail _ hc))))
 ·refine (hs)▸?_
  rcases List.mem_cons.mp hp with rfl|hp
  ·exact ⟨h2,Nat.ne_of_gt (Nat.lt_succ_of_lt hA.F.ns.lt),fr0 _ (Nat.le_succ _)⟩
  ·rcases List.mem_cons.mp hp with rfl|hp
   ·exact ⟨h1,Nat.ne_of_gt hA.F.ns.lt,fr0 _ (Nat.le_refl _)⟩
   ·exact ⟨hk _ _ (hA.N _ hp).1,(hA.N _ hp).2⟩
 ·rw [List.map_cons,List.map_cons,List.nodup_cons,List.nodup_cons]
  refine ⟨λq=>?_,λq=>?_,hA.R.nd⟩
  ·rcases List.mem_cons.mp q with q|q
   ·exact Nat.succ_ne_self _ q
   ·refine aQ (List.mem_map.mp q) λc hc e2=>?_
    exact rF hA c hc e2
  ·refine aQ (List.mem_map.mp q) λc hc e2=>?_
   exact fresh_ne hA c hc e2
theorem vh (GO:iN Γ)(KO:gE Γ)(bp:cE Γ k r)(O:G.Ok k)(hl:bY.names.lookup x.s=some .local)(Cy:bY.names.lookup y.s=some .local)
  (SE:MI (ME n G.sc) G.sc (.enum e) gZ)(h:wW r (.enum e) m H Q)(hA:At G fm cs s H)(hL:aw G fm cs m):
  Bi G k fm cs s bY [x,y] m (λk v Z Q=>Q (put y v (put x (.int k) m))) (.Tuple [.Name x.s p1,.Name y.s p2] kk p) Q gZ:=by
 cases SE with|enum e x' p' q' g hm=>
 refine kj GO bp O (.inr ⟨"enumerate",rfl⟩) (by decide) (by decide) (by decide) (by decide+kernel) g hm (show r.E e m H (Et Q) from h) hA hL λzZ s1 H1 av cv hS lW Cw hK hv h1=>?_;induction h1 with|mk a xs hx h1=>
 refine (show cv=_ from hv)▸?_;refine (lW.isList hx) _ λvs i1 r1=>?_;refine call_enumerate_list i1 λh' hE hit Ah hk=>?_;refine PySem.wpAny_pyIter_enum hE ?_;refine aQ hit λo ho hsh=>?_;refine (.mk [s1.heap.objs.size+1,s1.heap.objs.size] (NQ (s1.heap.objs.size+1) s1.heap.objs.size a) (.seq a (.list xs) xs) ((none,s1.heap.objs.size+1,y9 s1.heap.objs.size 0 .none)::(none,s1.heap.objs.size,o)::zZ) H1
  (hS.trans (.mk rfl rfl rfl)) (lW.VX hk ho hE rfl) (hK.trans λc hc Z=>.tail _ (.tail _ hc)) (λq hq hn hw=>?_) (λb hb=>?_) (.mk .none (.head _) o (.tail _ (.head _)) hsh)
  (λcl C hC Oc=>VW KO O Oc (Nat.succ_ne_self _) hl Cy hC) h1)
 ·rcases List.mem_cons.mp hw with e2|hw
  ·exact rF lW q (hK q hq hn) e2
  ·exact fresh_ne lW q (hK q hq hn) (List.mem_singleton.mp hw)
 ·rcases List.mem_cons.mp hb with rfl|hb
  ·exact ⟨_,.head _⟩
  ·rw [List.mem_singleton.mp hb];exact ⟨_,.tail _ (.head _)⟩
end
section
variable {G Gc:Gx Γ}
noncomputable def UJ (b1 b2:Bool)(x y:Str):List Str:=[(b1,x),(b2,y)].filterMap λz=>if z.1=true then some z.2 else none
noncomputable def swF (bk:ScopeKind)(b1 b2 c1 c2:Bool)(x y:Str):Sem (Option (List Str)):=
 if (!(2==2||2==3)||2!=2||bk !=ScopeKind.function)=true then pure none else if (false||(false||false))=true then pure none
 else if ((UJ b1 b2 x y).length !=2||(UJ b1 b2 x y).eraseDups.length !=(UJ b1 b2 x y).length)=true then pure none
 else if (c1&&true)=true then pure none else if (c2&&true)=true then (do unsupported "assign.tuple-of-constant-expressions:order-of-the-stores";pure (some (UJ b1 b2 x y))) else pure (some (UJ b1 b2 x y))
theorem Jq (h:(y==x)=false):([x,y]:List Str).eraseDups=[x,y]:=by
 rw [List.eraseDups_cons];refine congrArg _ ?_;refine (?_:(match !(y==x) with|true=>y::[]|false=>[]).eraseDups=[y]);rw [h];rfl
theorem SG (h0:bk=.function)(h1:b1=true)(h2:b2=true)(h3:c1=false)(h4:c2=false)(h:(y==x)=false):swF bk b1 b2 c1 c2 x y=pure (some [x,y]):=by
 subst h0 h1 h2 h3 h4;refine (?_:(if (([x,y]:List Str).eraseDups.length !=2)=true then pure none else pure (some [x,y]))=(pure (some [x,y]):Sem (Option (List Str))));rw [Jq h];rfl
theorem Dx (O:G.Ok k)(hx:bz G.sc x=true)(hy:bz G.sc y=true)(dw:x.s≠y.s)(rG:(p.line==q.line)=true):
  swappedStores [.Tuple [.Name x.s p,.Name y.s q] k1 tp] (.Tuple [.List es lp,.List Ei Yw] k2 vp) G.env=pure (some [x.s,y.s]):=by
 have e3:G.env.blockKind=.function:=by
  refine (?_:(if G.sc.kind.isAnnotationScope=true then ScopeKind.function else G.sc.kind)=ScopeKind.function);rw [O.kind];rfl
 refine (?_:swF G.env.blockKind (G.env.kindOf x.s==some .local&&p.line==p.line) (G.env.kindOf y.s==some .local&&q.line==p.line) (foldedForSure 8 (.List es lp)&&foldedForSure 8 (.List Ei Yw)) (constantsAlone 8 (.List es lp)&&constantsAlone 8 (.List Ei Yw)) x.s y.s=pure (some [x.s,y.s]));exact SG e3 (Bool.and_eq_true_iff.mpr ⟨hx,beq_self_eq_true _⟩) (Bool.and_eq_true_iff.mpr ⟨hy,beq_iff_eq.mpr (beq_iff_eq.mp rG).symm⟩) rfl rfl (beq_eq_false_iff_ne.mpr (Ne.symm dw))
theorem Jr (KO:gE Γ)(bp:cE Γ k r)(O:G.Ok k)(de:G.loc=G.L)(hx:bz G.sc x=true)(hy:bz G.sc y=true)(dw:x≠y)(rG:(p.line==q.line)=true)
  (h1:ME n G.sc a (.List es lp))(h2:ME n G.sc b (.List Ei Yw))(h:r.E a m H λv H=>r.E b m H λw H=>Q .next (put x v (put y w m)) H) (hA:At G fm cs s H) (hL:aw G fm cs m):
  wG G (exec (.Assign [.Tuple [.Name x.s p,.Name y.s q] k1 tp] (.Tuple [.List es lp,.List Ei Yw] k2 vp) pos) G.env) (dj G cs s Q) nE s:=by
 refine PyProof.Rows.Assign_Tuple_swapped (names:=[x.s,y.s]) ?_ rfl (Dx O hx hy (λe=>dw (KO.inj _ _ e)) rG);refine Tuple_ (AO (Q1:=Zo λv w H=>Q .next (put x v (put y w m)) H) bp O (.cons h1 (.cons h2 .nil)) h hA hL λzZ s1 H1 cM vs hS lW Cw hK hv hl h'=>?_);refine uy (dK.two hv h') λv w cv cw dp VI ED hq=>?_;subst dp;refine newTuple_N lW.F lW.N (λh3 F3 N3=>?_) (sz (show 2<1000 by decide));have tK:At G fm ((none,s1.heap.objs.size,uS #[cv,cw] 0)::zZ) {s1 with heap:=h3} H1:=lW.y8 rfl F3 N3;have ht:IsTup h3 s1.heap.objs.size #[cv,cw]:=⟨_,tK.N.get (.head _),rfl,_,rfl⟩;refine unpackItemsN_ (s:={s1 with heap:=h3}) tK.F tK.N ht O.hh rfl λh4 F4 N4=>?_;have Qu:dJ zZ ((none,s1.heap.objs.size,uS #[cv,cw] 0)::zZ):=λc hc Z=>.tail _ hc;refine assignInOrder_cons (bindName_ (ic (s:={s1 with heap:=h4}) KO de O hy ED (.mk F4 N4 tK.R) (Cw.keep Qu) λs5 hS5 NK VQ=>?_));refine assignInOrder_cons (bindName_ (ic KO de O hx VI NK VQ λs6 hS6 hA6 hL6=>assignInOrder_nil ?_));exact .mk ((hS.trans (cO.of hS5 rfl rfl)).trans hS6) hA6 (hK.trans Qu) hL6 .next hq
end
def za.ZF (Γ:Cx)(Z:Prop):Prop:=∀(sset:∀{k:Nat}{r:Ev}{G:Gx Γ},cE Γ k r->G.Ok k->∀{n:Nat}{e:Internal.E}{x:PySem.Expr}{p q p2 q2:Pos}{m:Loc}{H:Hp}{Q:VP},cq G.sc "sorted"=true->cq G.sc "set"=true->ME n G.sc e x->(r.E e m H λv H=>jI H v λxs=>AI Q xs H)->∀{fm cs s},At G fm cs s H->aw G fm cs m->wG G (eval (.Call (.Name "sorted" p) [.Call (.Name "set" p2) [x] [] q2] [] q) G.env) (bb G fm cs s VR Q) nE s),Z
def za (Γ):=∀Z:Prop,za.ZF Γ Z->Z
theorem za.mk:za.ZF Γ (za Γ):=λsset _ Z=>Z sset
theorem za.sset (Z:za Γ):∀{k:Nat}{r:Ev}{G:Gx Γ},cE Γ k r->G.Ok k->∀{n:Nat}{e:Internal.E}{x:PySem.Expr}{p q p2 q2:Pos}{m:Loc}{H:Hp}{Q:VP},cq G.sc "sorted"=true->cq G.sc "set"=true->ME n G.sc e x->(r.E e m H λv H=>jI H v λxs=>AI Q xs H)->∀{fm cs s},At G fm cs s H->aw G fm cs m->wG G (eval (.Call (.Name "sorted" p) [.Call (.Name "set" p2) [x] [] q2] [] q) G.env) (bb G fm cs s VR Q) nE s:=Z _ λsset=>sset
def Facts.ZF (Γ:Cx)(Z:Prop):Prop:=∀(T:ib)(KO:gE Γ)(GO:iN Γ)(CO:i6 Γ)(FO:jt Γ)(HD:za Γ),Z
def Facts (Γ):=∀Z:Prop,Facts.ZF Γ Z->Z
theorem Facts.mk:Facts.ZF Γ (Facts Γ):=λT KO GO CO FO HD _ Z=>Z T KO GO CO FO HD
def Facts.T (Z:Facts Γ):=Z _ λT KO GO CO FO HD=>T
def Facts.KO (Z:Facts Γ):=Z _ λT KO GO CO FO HD=>KO
def Facts.GO (Z:Facts Γ):=Z _ λT KO GO CO FO HD=>GO
def Facts.CO (Z:Facts Γ):=Z _ λT KO GO CO FO HD=>CO
def Facts.FO (Z:Facts Γ):=Z _ λT KO GO CO FO HD=>FO
def Facts.HD (Z:Facts Γ):=Z _ λT KO GO CO FO HD=>HD
section
theorem ju.up (h:ju Γ k C):ju Γ (k+1) C:=(.mk (λG O=>h.fn G (O.mono (Nat.le_succ k))) (λG O=>h.me G (O.mono (Nat.le_succ k))))
abbrev Qy (Γ:Cx)(G:Gx Γ)(rE:Loc->Hp->VP->Prop)(pe:PySem.Expr):Prop:=∀m H Q,rE m H Q->∀fm cs s,At G fm cs s H->aw G fm cs m->wG G (eval pe G.env) (bb G fm cs s VR Q) nE s
theorem SH (FF:Facts Γ)(bp:cE Γ (k+1) r)(pP:ju Γ k C)(O:G.Ok (k+1))(hm:MV (ME n) G.sc e pe):Qy Γ G (tI C r e) pe:=by
 intro m H Q h fm cs s hA hL;induction hm with
 |none=>exact Nd h hA
 |tt=>exact Ez h hA
 |ff=>exact Ez h hA
 |int=>exact RX h hA
 |str=>exact RY h hA
 |var x p h1 h2=>refine (show nY m x (λv=>Q v H) from h) _ λv hv hq=>?_;exact MY O h1 h2 hv hq hA hL
 |kL x p h1 h2=>refine (show tH x (λv=>Q v H) from h) _ λv hv hq=>?_;exact RZ FF.GO O h1 h2 hv hq hA
 |attr o x v p h1 h2=>exact Na FF.KO bp O h1 h2 h hA hL
 |bin op po a b x y p h0 h1 h2=>exact RI bp O h0 h1 h2 h hA hL
 |tup es ps k p hz h1=>exact RJ bp O h1 hz h hA hL
 |lst es ps p hz h1=>exact RK bp O h1 hz h hA hL
 |m9=>exact IX O h hA
 |idx a i x y p h1 h2=>exact Sa bp O h1 h2 h hA hL
 |AB a k i p0 u p q h1 h2=>exact Nh bp O h1 h2 h hA hL
 |rev a i p0 kk p1 p2 p q h1=>exact Si bp O h1 h hA hL
 |dQ f es ps p q h0 h1 h2 h3=>exact Jd FF.FO bp pP.up O h0 h1 h2 h3 h hA hL
 |new c es ps p q h0 h1 h2 h3=>exact Sv FF.KO FF.FO FF.CO bp pP O h0 h1 h2 h3 h hA hL
 |aB o nm es v ps p q g1 g2 h1 h2 h3 h4 h5=>exact Nv FF.KO FF.FO bp pP.up O g1 g2 h1 h2 h3 h4 h5 h hA hL
 |iZ e c x p p2 q h0 h1 h2 h3 h4=>exact Sj FF.GO FF.KO FF.CO bp O h0 h1 h2 h3 h4 h hA hL
 |len e x p q h0 h1=>exact Sb FF.GO bp O h0 h1 h hA hL
 |abs e x p q h0 h1=>exact Sd FF.GO bp O h0 h1 h hA hL
 |min a b x y p q h0 h1 h2=>exact Se FF.GO bp O h0 h1 h2 h hA hL
 |listOf e x p q h0 h1=>exact Gp FF.GO bp O h0 h1 h hA hL
 |sorted e x p q h0 h1=>exact Gq FF.GO bp O h0 h1 h hA hL
 |gw e x p q p2 q2 h0 h1 h2=>exact FF.HD.sset bp O h0 h1 h2 h hA hL
theorem SI (FF:Facts Γ)(bp:cE Γ (k+1) r)(i5:nv Γ (k+1) r)(O:G.Ok (k+1))(hm:Eu (ME n) G.sc e pe):Qy Γ G (tI C r e) pe:=by
 intro m H Q h fm cs s hA hL;induction hm with
 |comp elt x it c pe p gZ ifs bY q ne hs hi he hc=>
  have l1:=(bG hs).p5 _ (List.Mem.head _);exact n9 FF.KO O bp i5 hs hi he hc (lY FF.GO bp O (λcl C src I Sh T z0 Oc=>Qw O Oc T l1 z0) ne hi h hA hL) hL
 |kh elt x y it c pe p1 p2 kk p gZ ifs bY q hs hi he hc=>
  have l1:=(bG hs).p5 _ (List.Mem.head _);have l2:=(bG hs).p5 _ (List.Mem.tail _ (List.Mem.head _));cases it with
  |enum e=>exact n9 FF.KO O bp i5 hs hi he hc (vh FF.GO FF.KO bp O l1 l2 hi h hA hL) hL
  |over e=>exact n9 FF.KO O bp i5 hs hi he hc (lY FF.GO bp O (λcl C src I Sh T z0 Oc=>EL FF.KO O Oc T l1 l2 z0) rfl hi h hA hL) hL
  |range e=>exact n9 FF.KO O bp i5 hs hi he hc (lY FF.GO bp O (λcl C src I Sh T z0 Oc=>EL FF.KO O Oc T l1 l2 z0) rfl hi h hA hL) hL
  |mD a b=>exact n9 FF.KO O bp i5 hs hi he hc (lY FF.GO bp O (λcl C src I Sh T z0 Oc=>EL FF.KO O Oc T l1 l2 z0) rfl hi h hA hL) hL
theorem SJ (FF:Facts Γ)(bp:cE Γ (k+1) r)(i5:nv Γ (k+1) r)(pP:ju Γ k C):cE Γ (k+1) ⟨tI C r,stepT r,AJ C r⟩:=by
 intro G O n e pe m H Q hm h fm cs s hA hL;cases n with
 |zero=>exact hm.elim
 |succ n=>
  replace hm:yQ (ME n) G.sc e pe:=hm;induction hm with
  |val h1 h2 hm=>exact SH FF bp pP O hm m H Q h fm cs s hA hL
  |lc hm=>exact SI FF bp i5 O hm m H Q h fm cs s hA hL
  |cmp op po a b x y p h0 h1 h2=>exact RV FF.T FF.KO bp O h0 h1 h2 h hA hL
  |between=>exact (show False from h).elim
  |kM a b x y p h1 h2=>exact RN bp O h1 h2 h hA hL
  |yD a b x y p h1 h2=>exact VA bp O h1 h2 h hA hL
  |jq a x p h1=>exact RM bp O h1 h hA hL
  |ite c a b z x y p h0 h1 h2=>exact RO bp i5 O h0 h1 h2 h hA hL
theorem GN (h1:RC e=true)(h:stepT r e m H Q):r.E e m H (jJ Q):=by
 cases e<;>first|exact h|exact absurd h1 Bool.false_ne_true
theorem Dy (h:MW pe=true):isTrue pe env x=(do let v <- x;standAt pe.pos;holding [v] (truthy v)):=by
 cases pe<;>first|rfl|exact absurd h Bool.false_ne_true
theorem SK (FF:Facts Γ)(bp:cE Γ (k+1) r)(i5:nv Γ (k+1) r):nv Γ (k+1) ⟨tI C r,stepT r,AJ C r⟩:=by
 intro G O n e pe m H Q hm h fm cs s hA hL;cases n with
 |zero=>exact hm.elim
 |succ n=>
  have CI:yQ (ME n) G.sc e pe:=hm;induction CI with
  |val h1 h2 h3=>exact AQ bp O hm (GN h1 h) hA hL (Dy h2)
  |lc h3=>induction h3<;>exact AQ bp O hm h hA hL rfl
  |cmp op po a b x y p h0 h1 h2=>exact RW FF.T FF.KO bp O h0 h1 h2 h hA hL
  |between a b c x y z p h1 h2 h3=>exact Dg FF.T FF.KO bp O h1 h2 h3 h hA hL
  |kM a b x y p h1 h2=>exact RQ i5 O h1 h2 h hA hL
  |yD a b x y p h1 h2=>exact VB i5 O h1 h2 h hA hL
  |jq a x p h1=>exact RP i5 O h1 h hA hL
  |ite=>exact (show False from h).elim
end
theorem NS (GO:iN Γ):za Γ:=by
 refine (.mk (λ{k r G} bp O {n e x p q p2 q2 m H Q} hg hg2 hm h {fm cs s} hA hL=>?_));refine PyProof.Rows.Call_ (oZ (cv:=.builtin "sorted") O hg (by decide) (GO.bi _ (by decide)) (by decide+kernel) (by decide) hA ?_);refine PyProof.Rows.callWith_builtin1 (spliced_more ?_ rfl) rfl rfl;refine kj GO bp O (.inr ⟨"set",rfl⟩) (by decide) (by decide) (by decide) (by decide+kernel) hg2 hm h hA hL λcs' s' H' av v hS bJ ef hK hv h'=>?_;induction h' with|mk a xs hx h'=>
 refine (show v=_ from hv)▸?_;refine (bJ.isList hx) _ λl i1 r1=>?_;refine h' _ λis hz Zp nd h'=>?_;have hi:=lV (Zp▸r1);have hlen:is.length<64:=(PyProof.Rows.IntsAre.length hi)▸r1.length▸hz;refine Ij O.hh i1 hi nd (Nat.lt_of_le_of_lt (Nat.succ_le_of_lt hlen) (by decide)) λh1 tk hJ hk=>?_;have fX:s'.heap.objs.size<=h1.objs.size:=by
  refine hJ _ λ_ _ _ _ ho _ _ _ _ _=>?_;exact Nat.le_of_lt (Heap.lt_size ho)
 refine spliced_none (CN O.hh hJ hlen λh2 d Ze q out Qd c hI hp hs hle he xj=>?_);obtain rfl:=tL (hp.trans (lA is).symm) hs (jy is);have VY:s'.heap.objs.size<=q:=Nat.le_trans fX hle;exact (bJ.uX (D:=q) (s':={s' with heap:=h2,drawn:=d,toks:=Ze}) O (bJ.F.kept λb o e=>xj b o (hk b o e)) (bJ.N.kept_cons bJ.F (λb o e=>xj b o (hk b o e)) VY he) (λc hc e=>absurd (Nat.lt_of_lt_of_le (Heap.lt_size (bJ.N.get (bO hc))) VY) (by rw [e];exact Nat.lt_irrefl _)) h' (.mk _ c (.head _) (by simpa using uY hI)) (.mk rfl rfl rfl)).weak hS hK
section
theorem j2 (EM:Nj Γ k r){G:Gx Γ}(O:G.Ok k)(de:G.loc=G.L)(hm:bZ (MS n G.sc) ss ps):∀{m:Loc}{H:Hp}{Q:FP},eK r ss m H Q->∀{fm cs s},At G fm cs s H->aw G fm cs m->
  wG G (execs ps G.env) (dj G cs s Q) nE s:=by
 induction hm with
 |nil=>intro m H Q h fm cs s hA hL;exact wpAny_execs_nil (.mk .refl hA .refl hL .next h)
 |cons h1 h2 ih=>
  intro m H Q h fm cs s hA hL;refine wpAny_execs_cons (wpAny_mono (EM G O de n _ _ m H _ h1 h fm cs s hA hL) (λf s1 z=>?_) λZ Z z=>z);obtain ⟨hS,fm1,zZ,H1,m1,af,lW,L9,Cw,hf,hq⟩:=z;induction hf with
  |next=>exact wpAny_mono (ih hq lW Cw) (λZ Z z=>z.weak hS L9) λZ Z z=>z
  |brk=>exact .mk hS lW L9 Cw .brk hq
  |ret hv=>exact .mk hS lW L9 Cw (.ret hv) hq
def Js (Γ:Cx)(k:Nat)(r:Ev):Prop:=∀(G:Gx Γ),G.Ok k->G.loc=G.L->∀n e v z p NP m H Q,bz G.sc z=true->sE G.sc z.s p v->Eu (ME n) G.sc e v->r.E e m H (λv H=>Q .next (put z v m) H)->∀fm cs s,At G fm cs s H->aw G fm cs m->
 wG G (exec (.Assign [.Name z.s p] v NP) G.env) (dj G cs s Q) nE s
theorem SM (FF:Facts Γ)(bp:cE Γ (k+1) r)(i5:nv Γ (k+1) r)(EM:Nj Γ (k+1) r)(ihA:Js Γ (k+1) r):Nj Γ (k+1) ⟨tI C r,stepT r,AJ C r⟩:=by
 intro G O de n st ps m H Q hm h fm cs s hA hL;cases n with
 |zero=>exact hm.elim
 |succ n=>
  replace hm:lz (ME 30 G.sc) (Eu (ME 29) G.sc) (bZ (MS n G.sc)) G.sc st ps:=hm;induction hm with
  |expr e v p hc h1=>exact Nl bp O hc h1 h hA hL
  |asg x e p v q h1 h2 h3=>exact Sl FF.KO bp O de h1 h2 h3 h hA hL
  |Vo x e p v q h1 h2 h3=>exact ihA G O de 29 e _ x _ _ m H Q h1 h2 h3 h fm cs s hA hL
  |ag o x e ov p v q h1 h2=>exact Dj FF.KO bp O h1 h2 h hA hL
  |i3 o i e ov iv p v q h1 h2 h3=>exact Gw bp O h1 h2 h3 h hA hL
  |unpack xs e ts kk p f as kw cp q hx h1=>exact Gy FF.KO bp O de hx h1 h hA hL
  |pW x y a b p1 p2 k1 q1 es ep Ei UA k2 q2 q ne hx hy h1 h2 hl=>exact Jr FF.KO bp O de hx hy ne hl h1 h2 h hA hL
  |aug x op e p po v q hx ho h1=>exact Sp FF.KO bp O de hx ho h1 h hA hL
  |gW o x op e ov p po v q ho h1 h2=>exact Dk FF.KO bp O ho h1 h2 h hA hL
  |ez c t e pc pt pe q h1 h2 h3=>exact VH i5 O h1 h (λSN hA hL=>j2 EM O de h2 SN hA hL) (λSN hA hL=>j2 EM O de h3 SN hA hL) hA hL
  |ret e v q h1=>exact I5 bp O h1 h hA hL
  |Vp q=>exact I5 (v:=.Constant .none 0 q) (pos:=q) bp O (n:=30) (yQ.val rfl rfl (.none _ _)) h hA hL
  |iy x it b p gZ pb q ne hx hi hb=>exact Sy FF.GO FF.KO bp O de ne hx hi (λSN hA hL=>j2 EM O de hb SN hA hL) h hA hL
  |yE x y it b p1 p2 kk p gZ pb q ne hx hy hi hb=>exact NG FF.GO FF.KO bp O de ne hx hy hi (λSN hA hL=>j2 EM O de hb SN hA hL) h hA hL
  |nS b pb h0 hs q hb=>exact Sz (b:=b) (j2 EM O de hb h hA hL)
  |nT o i ov iv p q h1 h2=>exact So bp O h1 h2 h hA hL
  |pass=>exact wpAny_Pass (.mk .refl hA .refl hL .next h)
  |brk=>exact wpAny_Break (.mk .refl hA .refl hL .brk h)
  |dead=>exact (show False from h).elim
end
section
theorem SO (FF:Facts Γ)(bp:cE Γ (k+1) r)(i5:nv Γ (k+1) r):Js Γ (k+1) ⟨tI C r,stepT r,AJ C r⟩:=by
 intro G O de n e v z p NP m H Q hz VV hm h fm cs s hA hL;induction hm with
 |comp elt x it c pe p gZ ifs bY q ne hs hi he hc=>
  have l1:=(bG hs).p5 _ (List.Mem.head _);exact og FF.KO O de bp i5 hs hz VV hi he hc (lY FF.GO bp O (λcl C src I Sh T z0 Oc=>Qw O Oc T l1 z0) ne hi h hA hL) hL
 |kh elt x y it c pe p1 p2 kk p gZ ifs bY q hs hi he hc=>
  have l1:=(bG hs).p5 _ (List.Mem.head _);have l2:=(bG hs).p5 _ (List.Mem.tail _ (List.Mem.head _));cases it with
  |enum e=>exact og FF.KO O de bp i5 hs hz VV hi he hc (vh FF.GO FF.KO bp O l1 l2 hi h hA hL) hL
  |_=>exact og FF.KO O de bp i5 hs hz VV hi he hc (lY FF.GO bp O (λcl C src I Sh T z0 Oc=>EL FF.KO O Oc T l1 l2 z0) rfl hi h hA hL) hL
end
def rL.ZF (Γ:Cx)(k:Nat)(r:Ev)(Z:Prop):Prop:=∀(E:cE Γ k r)(T:nv Γ k r)(S:Nj Γ k r)(A:Js Γ k r),Z
def rL (Γ k r):=∀Z:Prop,rL.ZF Γ k r Z->Z
theorem rL.mk:rL.ZF Γ k r (rL Γ k r):=λE T S A _ Z=>Z E T S A
def rL.E (Z:rL Γ k r):=Z _ λE T S A=>E
def rL.T (Z:rL Γ k r):=Z _ λE T S A=>T
def rL.S (Z:rL Γ k r):=Z _ λE T S A=>S
def rL.A (Z:rL Γ k r):=Z _ λE T S A=>A
theorem EN (FF:Facts Γ)(pP:ju Γ k C)(n:Nat):rL Γ (k+1) (ev C n):=by
 induction n with
 |zero=>exact (.mk (λ_ _ _ _ _ _ _ _ _ h=>h.elim) (λ_ _ _ _ _ _ _ _ _ h=>h.elim) (λ_ _ _ _ _ _ _ _ _ _ h=>h.elim) (λ_ _ _ _ _ _ _ _ _ _ _ _ _ _ _ h=>h.elim))
 |succ n i=>exact (.mk (SJ FF i.E i.T pP) (SK FF i.E i.T) (SM FF i.E i.T i.S i.A) (SO FF i.E i.T))
theorem Ju (FF:Facts Γ)(pP:ju Γ k C):VJ Γ (k+1) C:=λG O de ss ps m H Q hm h fm cs s hA hL=>j2 (EN FF pP 40).S O de hm h hA hL
def vi.ZF (C:Internal.Calls)(o:Option Fn)(vs:List V)(H:Hp)(Q:VP)(Z:Prop):Prop:=∀(g:Fn)(e:o=some g)(h:nc C g vs H Q),Z
def vi (C o vs H Q):=∀Z:Prop,vi.ZF C o vs H Q Z->Z
theorem vi.mk:vi.ZF C o vs H Q (vi C o vs H Q):=λg e h _ Z=>Z g e h
theorem Jv (h:(aj (j+1)).fn f vs H Q):vi (aj j) (nX f) vs H Q:=by
 have h':(match nX f with|some g=>nc (aj j) g vs H Q|none=>False):=h;induction e:nX f with
 |none=>rw [e] at h';exact h'.elim
 |some g=>rw [e] at h';exact (.mk g rfl h')
theorem Jw (h:(aj (j+1)).aB c n vs H Q):vi (aj j) (meths c n) vs H Q:=by
 have h':(match meths c n with|some g=>nc (aj j) g vs H Q|none=>False):=h;induction e:meths c n with
 |none=>rw [e] at h';exact h'.elim
 |some g=>rw [e] at h';exact (.mk g rfl h')
theorem vj (FF:Facts Γ)(j:Nat):ju Γ (2*j) (aj j):=by
 induction j with
 |zero=>exact (.mk (λ_ _ _ _ _ _ _ _ _ h=>h.elim) (λ_ _ _ _ _ _ _ _ _ _ h=>h.elim))
 |succ j ih=>
  have B:=Ju FF ih;refine (.mk (λG O f vs cvs H Q hp hv h fm cs s hA=>?_) (λG O c n vs cvs H Q hp hv h fm cs s hA=>?_))
  ·refine (Jv h) _ λg hg h'=>?_
   exact EF FF.KO O B (FF.FO.fn _ _ hg hp).2 hv h' hA
  ·refine (Jw h) _ λg hg h'=>?_
   exact EF FF.KO O B (FF.FO.me _ _ _ hg hp).2 hv h' hA
section
variable {E:SP}
theorem EO (h:ey M A t Q nE s):ey M A t Q E s:=bN h (λZ Z x=>x) λZ Z x=>x.elim
theorem vm {st:Stmt}
  (h:ey M A (exec st env) (λf s'=>match f with|.next=>ey M A (execs rest env) Q E s'|f=>Q f s') E s):ey M A (execs (st::rest) env) Q E s:=by
 rw [execs_cons];refine dg (bN h (λf s' h'=>?_) λZ Z x=>x);induction f<;>first|exact h'|exact cK h'
theorem Jx (h:ey (model prog w) A (eval e env) (λZ=>Q .next) E s)
  (hi:interactive env=false) (hs:swapsWith e none pos.line env=pure false):ey (model prog w) A (exec (.Expr e pos) env) Q E s:=by
 rw [exec_Expr env e pos hi hs];exact aE (wpAny_standAt (dg (bN h (λv s' h'=>j9 (wpAny_dropValue h')) λZ Z x=>x)))
theorem ud (h:ey (model prog w) A (eval value env) (λv ba=>wpAny (model prog w) A (storeName env x v) (λZ=>Q .next) E ba) E s)
  (hs:swapsWith value (some (.Name x p)) pos.line env=pure false):ey (model prog w) A (exec (.Assign [.Name x p] value pos) env) Q E s:=by
 rw [exec_Assign_Name env x p value pos hs];refine aE (wpAny_standAt (dg (bN h (λv ba h₁=>j9 ?_) λZ Z x=>x)));exact wpAny_bind (wpAny_standAt (wpAny_bind (wpAny_bindName (wpAny_mono h₁ (λZ Z z=>wpAny_pure z) λZ Z z=>z))))
theorem oh
  (h:ey (model prog w) A (eval value env) (λv ba=>wpAny (model prog w) A (eval o env) (λov kK=>wpAny (model prog w) A (setAttr ov a v) (λZ=>Q .next) E kK) E ba) E s)
  (hs:swapsWith value (some (.Attribute o a p)) pos.line env=pure false):ey (model prog w) A (exec (.Assign [.Attribute o a p] value pos) env) Q E s:=λΓ q pJ hc=>by
 simp only [plainObj_exec_Assign_Attribute o a p value pos hs,assign_Attribute,Sem.wp_bind',Sem.wp_holding,Sem.wp_cmd_standAt,Sem.wp_release,Sem.wp_pure'];exact Sem.wp_mono _ Γ _ (λv ZK ba h₁=>Sem.wp_mono _ Γ _ (λov Z kK tY=>tY Γ _ pJ) (λZ Z Z h'=>h') _ _ (h₁ Γ ZK pJ)) (λZ Z Z h'=>h') _ _ (h Γ _ pJ hc)
theorem sP
  (h:ey (model prog w) A (eval value env) (λv ba=>wpAny (model prog w) A (assign (.Tuple elts k NT) env v) (λZ=>Q .next) E ba) E s)
  (hs:swapsWithSole [.Tuple elts k NT] value pos.line env=pure false) (hw:swappedStores [.Tuple elts k NT] value env=pure none):
  ey (model prog w) A (exec (.Assign [.Tuple elts k NT] value pos) env) Q E s:=by
 simp only [exec_Assign];refine aE (wpAny_standAt ?_);refine (hs)▸?_;refine aE (wpAny_pure ?_);rw [if_neg (by decide)];refine dg (bN h (λv ba h₁=>j9 ?_) λZ Z x=>x);rw [hw];refine wpAny_bind (wpAny_pure ?_);show wpAny _ A (do assignAll v [assign (.Tuple elts k NT) env];pure .next) Q E ba;exact wpAny_bind (wpAny_mono h₁ (λZ Z x=>wpAny_pure x) λZ Z x=>x)
theorem Jy
  (h:ey (model prog w) A (isTrue test env (eval test env)) (λb kK=>if b then ey (model prog w) A (execs body env) Q E kK else ey (model prog w) A (execs orelse env) Q E kK) E s):
  ey (model prog w) A (exec (.If test body orelse pos) env) Q E s:=λΓ p pJ hc=>by
 simp only [exec_If,Sem.wp_bind',Sem.wp_cmd_standAt];refine Sem.wp_mono _ Γ _ (λb ZL kK tY=>?_) (λZ Z Z h'=>h') _ _ (h Γ _ pJ hc);induction b<;>exact tY Γ ZL pJ hc
theorem vn (h:ey M A (isTrue x env (eval x env)) (λc s'=>Q (!c) s') E s):
  ey M A (isTrue (.UnaryOp .Not x pos) env whole) Q E s:=by
 exact dg (bN h (λc s' h'=>cK h') λZ Z x=>x)
theorem NU (h:ey (model prog w) A (execs body env) Q nE s):
  ey (model prog w) A (exec (.Try body (h₀::hs) [] [] pos) env) Q E s:=by
 simp only [arm_exec_Try];refine aE (wpAny_standAt ?_);unfold tryStmt;refine dg (Ap (bN h (λf ba h₁=>?_) λe ba h₁=>h₁.elim));induction f<;>first|exact j9 (wpAny_execs_nil h₁)|exact cK h₁
theorem NW
  (h:wpAny (model prog w) A (eval iter env) (λx ba=>wpAny (model prog w) A (pyIter x) (λit kK=>
   e9 (model prog w) A (.forLoop target it body [] env) (λr s'=>match r with|.ok f=>Q f s'|.error _=>False) kK) nE ba) nE s)
  (hs:∀x,foldedSetIterable iter env x=pure x):ey (model prog w) A (exec (.For target iter body [] pos) env) Q E s:=by
 simp only [exec_For];refine EO (aE (wpAny_standAt (aE (wpAny_mono h (λx ba h₁=>aE (wpAny_of_eq (hs x) (aE (wpAny_standAt (aE (wpAny_holding (wpAny_mono h₁ (λit kK tY=>?_) λZ Z z=>z))))))) λZ Z z=>z))));refine nM (MH rfl (kb tY λr s' z=>?_) (by intro x;contradiction));rcases r with e|f
 ·exact z.elim
 ·exact z
theorem w3 (I:Nat->Shared->Prop)
  (cN:∀n s,I n s->wpAny (model prog w) A (pyNext it) (λr ba=>match r with
   |none=>R (.ok .next) ba
   |some v=>wpAny (model prog w) A (letOwnedTupleGo target it v) (λZ EH=>wpAny (model prog w) A (assign target env v) (λZ kK=>ey (model prog w) A (execs body env) (λf Bb=>match f with
      |.next|.cont=>∃m,m<n/\I m Bb
      |.brk=>R (.ok .next) Bb
      |.ret v=>R (.ok (.ret v)) Bb) nE kK) nE EH) nE ba) nE s)
  (n:Nat) (h:I n s):e9 (model prog w) A (.forLoop target it body [] env) R s:=by
 induction n using Nat.strongRecOn generalizing s with
 |ind n ih=>
  refine d4 ?_;show ey _ A ((forTurn target it body [] env).onRaise (λx=>do noteFrame x env;theTreesLotGoes x)) _ _ s;refine nM (EO ?_);refine aE (wpAny_standAt (aE (wpAny_onRaise (wpAny_mono (cN n s h) (λr ba h₁=>?_) λZ Z h'=>h'.elim))));induction r with
  |none=>exact cK ⟨rfl,rfl,Iu (codeAny_block (wpAny_execs_nil h₁))⟩
  |some v=>
   refine aE (wpAny_mono h₁ (λZ EH VZ=>aE (wpAny_mono VZ (λZ kK tY=>dg (bN tY (λf Bb NX=>?_) λZ Z z=>z)) λZ Z z=>z)) λZ Z z=>z);induction f with
   |next=>obtain ⟨m,hm,hI⟩:=NX;exact cK ⟨rfl,rfl,ih m hm hI⟩
   |cont=>obtain ⟨m,hm,hI⟩:=NX;exact cK ⟨rfl,rfl,ih m hm hI⟩
   |brk=>exact cK NX
   |ret v=>exact cK NX
theorem Jz (h:ey M A m Q E s):ey M A (m.keep vs) Q E s:=
 λΓ p pJ hc=>by simp only [Sem.wp_keep];exact h Γ p pJ hc
theorem EP [i:Decidable c](h1:ey M A t Q E s)(h2:ey M A e Q E s):ey M A (if c then t else e) Q E s:=by
 induction i with
 |isTrue h=>exact h1
 |isFalse h=>exact h2
theorem zb {P:Heap->Prop}(SQ:(args.any (·.1)||([]:List (Option Str×Sem Value)).any (·.1.isNone))=false)
  (hk:∀h,P h->∃k,(k=Keeper.frame\/k=Keeper.machine\/k=Keeper.boundFrame)/\Looks M h (keeperOf f) k)
  (h:wpAny M A (evalArgs f true args []) (λa ba=>P ba.heap/\ey M A (call f (first++a.pos) a.kw) Q E ba) E s):ey M A (callWith pos f first args []) Q E s:=by
 refine aE (wpAny_holding (wpAny_mono h (λa ba h₁=>aE (wpAny_standAt ?_)) λZ Z x=>x));refine aQ (hk _ h₁.1) λk wz L=>?_;refine aE (L.here ?_);have tail:∀{t:Sem Value},ey M A t Q E ba->ey M A (t >>= λr=>holding [r] point >>= λZ=>pure r) Q E ba:=
  λht=>dg (bN ht (λr kK hr=>aE (wpAny_holding (wpAny_point (cK hr)))) λZ Z x=>x)
 have marked (mk:Value):ey M A (callMarked mk f (first++a.pos) a.kw) Q E ba:=by unfold callMarked;exact Jz h₁.2
 rw [SQ];rcases wz with rfl|rfl|rfl
 ·exact EP (tail h₁.2) (tail (marked _))
 ·exact tail h₁.2
 ·exact EP (tail h₁.2) (tail (marked _))
end
section
set_option backward.match.sparseCases true
section
theorem SR
  {dV kV doc pm ny ct:Value}{an:Option Addr}{fo:Obj}{f:Addr}{args:Args}{binds:List (Str×Value)}
  (B:Below A₀ base outer h₀)(F:Fr h₀ L s.heap m)(N:News h₀ L s.heap news)(ZM:h₀.NoLimit)(hA:A.frames=some (env::outer))(hf:env.frame=some L)(hke:env.scope.kind=.function)
  (ho:s.heap.get? f=some fo)(hd:fo.data=.func (fnX name qual params body scope [] dV kV doc pm an ny ct))(Vg:s.heap.CodeRec ny qual)(Ag:A.depth<recursionLimit)
  (Wa:BindsTo s (fnX name qual params body scope [] dV kV doc pm an ny ct) args binds)
  (Wb:∀n,∀x∈binds,scope.names.lookup x.1=some .local\/(scope.names.lookup x.1=some .cell/\((cellsFrom n scope.names []).lookup x.1).isSome=true))
  (Ri:((cellsFrom 0 scope.names []).map (·.1)).Nodup)
  (h:∀g L' h₁ tk cells,Fr g L' h₁ (bindL (envOfC qual scope L' f ny).kindOf binds λZ=>none)->News g L' h₁ (cells++news)->
   CellsAre (bindC (envOfC qual scope L' f ny).kindOf binds λZ=>none) (cellsFrom (L'+1) scope.names []) cells->Below A base (env::outer) g->h₀.StaysIn g->(∀p∈news,p.1<L')->
   ey (model prog w) (A.deeper (envOfC qual scope L' f ny)) (execs body (envOfC qual scope L' f ny)) (λfl s'=>LeaveK h₀ L m g R (match fl with|.ret v=>v|_=>.none) s') nE {s with heap:=h₁,toks:=tk})
  (Zl:scope.isCoroutine=false) (Rq:scope.isGenerator=false) (hk:scope.kind=.function):e9 (model prog w) A (.call (.ref f) args) R s:=by
 refine tD (groundX (R:=R) B F N hA hf hke) λZ BG st lv=>?_;refine jG Ag ho hd Zl Rq rfl Vg (Wa _ _ _ _ ?_);refine wpAny_newFunctionEnv_cells hk (Wb _) λZN he s' x=>?_;subst he;refine ⟨(ZM.keeps F.keep).keeps x.toInCall.keep,uE (EO ?_)⟩;refine pU x.done λh₁ tk dp Z=>?_;subst dp;have ER:=x.toInCall.keep;have nd:=cellsFrom_names scope.names 0 (s.heap.objs.size+1) [] [] rfl▸Ri;refine aQ (Cl.news (h₀:=s.heap) (Nat.le_refl _) λn c hm=>⟨x.cell n c (lookup_of_mem_nodup nd hm),x.above n c hm⟩) λcells NC Y=>?_;have run:=h (hideAll s.heap (news.map (·.1))) s.heap.objs.size h₁ tk cells ⟨x.toInCall.ns,λb o e=>ER b o (of_hideAll _ e),Nat.le_of_eq (hideAll_size _ _)⟩ (λp hp=>?_) Y BG st λp hp=>Heap.lt_size (N p hp).1
 ·exact bN run (λfl s' hl=>lv _ _ hl) λZ Z y=>y.elim
 ·rcases List.mem_append.mp hp with hp|hp
  ·refine ⟨(NC p hp).1,(NC p hp).2.1,?_⟩
   cases q:(hideAll s.heap (news.map (·.1))).get? p.1 with
   |none=>rfl
   |some o=>have:=of_hideAll _ q;rw [(NC p hp).2.2] at this;injection this
  ·exact ⟨ER _ _ (N p hp).1,Nat.ne_of_lt (Heap.lt_size (N p hp).1),hideAll_none _ (List.mem_map_of_mem hp)⟩
theorem nA {id:String}(hq:(Code.builtin id args).quiet=true)(hk:iu (.builtin id args)=true)(hb:entryFor table id=some b)
  (h:wpAny (model prog w) A.in1 (checkBuiltinCall id args) (λZ ba=>ey (model prog w) (A.under (.builtin id args)) (b args)
   (λfin s'=>match fin with|.done f=>R (.ok f) s'|.again c'=>c'.quiet=true/\iu c'=true/\e9 (model prog w) A c' R s') (λe s'=>R (.error e) s') ba)
   (λe s'=>R (.error e) s') s):e9 (model prog w) A (.call (.builtin id) args) R s:=by
 refine d4 ?_;show ey _ A.in1 (do checkBuiltinCall id args;again (.builtin id args)) _ _ s;exact aE (wpAny_mono h (λZ ba h₁=>cK ⟨hq,hk,lh hb h₁⟩) λZ Z h'=>h')
theorem Wc {K:Frag}(F:Fr h₀ L s.heap m)(N:News h₀ L s.heap news)(X:K.In s.heap)(hm:makesIn K C=true)
  (hi:findIn K (.ref C) "__init__"=some (some (.ref fI)))(hf:typeIn K (.ref fI)=some (.type "function"))
  (h:∀x dx h',Fr h₀ L h' m->News h₀ L h' ((x,instObj C dx)::(dx,emptyDict)::news)->(∀p∈news,p.1<dx)->dx<x->
   e9 (model prog w) (A.under (.builtin "type.__call__" ⟨.ref C::rest,[]⟩)) (.call (.ref fI) ⟨.ref x::rest,[]⟩) (InitBack x R) {s with heap:=h'}):
  e9 (model prog w) A (.call (.ref C) ⟨rest,[]⟩) R s:=by
 obtain ⟨hh,g,d,t,os⟩:=s;have hq:=h _ hh.objs.size _ ((F.push _).push _) (by
  have:=(N.push F emptyDict).push (F.push _) (instObj C hh.objs.size)
  rwa [Heap.size_push] at this) (λp hp=>Heap.lt_size (N p hp).1) (Nat.lt_succ_self _)
 have Y:=makes_of (M:=model prog w) X hm;have hl:=looks_findIn (M:=model prog w) X hi;have hb:=λself=>bind_fn (M:=model prog w) X self hf;have Y':=Y;obtain ⟨⟨oc,od,cd,sl,hC,e1,e2,e4⟩,made,base,self,top,call,typ⟩:=Y;refine d4 ?_;refine aE (wpAny_load hC ?_);refine aE (call.here ?_);dsimp only;rw [tc_bind];refine aE (wpAny_pure (aE (wpAny_pure ?_)));refine cK (a:=Fin.again (.call (.builtin "type.__call__") ⟨.ref C::rest,[]⟩)) ⟨rfl,rfl,?_⟩;refine nA (Code.quiet_builtin _ (by decide+kernel)) rfl entry_typeCall (check_slot tc_kind tc_split typ (tc_args _ _ _) ?_);unfold Builtin.«type.__call__»;have hmr:Looks (model prog w) hh (mroOf (.ref C)) cd.mro:=((Looks.ld (part:=none) hC).andThen .now).andThen .now;refine cB rfl ?_;refine aE (hmr.here ?_);refine cB e4 ?_;refine aE (made.here ?_);refine aE (wpAny_pure ?_);refine aE (wpAny_holding (wpAny_call (codeAny_mono (new_K (R:=λr s'=>r=.ok (.ret (.ref (hh.objs.size+1)))/\s'=⟨(hh.push emptyDict).push (instObj C hh.objs.size),g,d,t,os⟩) Y' hl (.inl rfl) ⟨rfl,rfl⟩) λr ba hr=>?_)));obtain ⟨rfl,rfl⟩:=hr;have k:∀b o,hh.get? b=some o->((hh.push emptyDict).push (instObj C hh.objs.size)).get? b=some o:=λb o e=>Heap.get?_push_of_some _ (Heap.get?_push_of_some _ e);have hx:((hh.push emptyDict).push (instObj C hh.objs.size)).get? (hh.objs.size+1)=some (instObj C hh.objs.size):=by heap_get
 have t1:Looks (model prog w) ((hh.push emptyDict).push (instObj C hh.objs.size)) (typeOf (.ref (hh.objs.size+1))) (.ref C):=(Looks.ld hx).andThen .now;have s1:=self.keeps k;have i1:=hl.keeps k;have b1:=(hb (.ref (hh.objs.size+1))).keeps k;refine aE (wpAny_bind (t1.here (s1.here ?_)));refine cB rfl ?_;refine dg (ji ?_);refine aE (wpAny_bind (t1.here (i1.here ?_)));refine ji (aE (b1.here ?_));refine dg (lJ (kb hq λr s' z=>?_));rcases r with e|(_|_|_|v)<;>first|exact z|exact z.elim|skip
 obtain ⟨rfl,z⟩:=z;exact cK (cB (by decide) (cK z))
end
end
def gN.ZF (Γ:Cx)(k:Nat)(C:Internal.Calls)(Z:Prop):Prop:=∀(fn:∀(G:Gx Γ),G.Ok k->∀f vs cvs H Q,nh f=true->dK vs cvs->C.fn f vs H Q->∀fm cs s,At G fm cs s H->e9 (model Γ.prog Γ.w) G.A (.call (.ref (Γ.X.fa f)) ⟨cvs,[]⟩) (iD G fm cs s Q) s) (me:∀(G:Gx Γ),G.Ok k->∀c n vs cvs H Q,lR c n=true->dK vs cvs->C.aB c n vs H Q->∀fm cs s,At G fm cs s H->e9 (model Γ.prog Γ.w) G.A (.call (.ref (Γ.X.ma c n)) ⟨cvs,[]⟩) (iD G fm cs s Q) s),Z
def gN (Γ k C):=∀Z:Prop,gN.ZF Γ k C Z->Z
theorem gN.mk:gN.ZF Γ k C (gN Γ k C):=λfn me _ Z=>Z fn me
def gN.fn (Z:gN Γ k C):=Z _ λfn me=>fn
def gN.me (Z:gN Γ k C):=Z _ λfn me=>me
section
variable {G:Gx Γ}
theorem ph (bp:cE Γ k r)(O:G.Ok k)(hk:∀h,Γ.K.In h->∃k,(k=Keeper.frame\/k=Keeper.machine\/k=Keeper.boundFrame)/\Looks (model Γ.prog Γ.w) h (keeperOf f) k) (hm:bZ (ME n G.sc) es ps) (h:nH r es m H Q1) (hA:At G fm cs s H) (hL:aw G fm cs m)
  (next:∀cs' s' H' cM vs,cO s s'->At G fm cs' s' H'->aw G fm cs' m->dJ cs cs'->dK cM vs->Q1 cM H'->ey (model Γ.prog Γ.w) G.A (call f (first++vs)) P nE s'):
  ey (model Γ.prog Γ.w) G.A (callWith pos f first (backTo pos (starEach ps G.env)) []) P nE s:=by
 refine zb (P:=λh=>Γ.K.In h) (by rw [j1 hm];rfl) hk ?_;induction hm with
 |nil=>exact evalArgs_nil3 ⟨O.nu.keeps hA.F.keep,next _ _ _ [] [] .refl hA hL .refl trivial h⟩
 |cons h1 h2=>
  have run:=AO (P:=λvs ba=>Γ.K.In ba.heap/\ey (model Γ.prog Γ.w) G.A (call f (first++vs)) P nE ba) (pos:=pos) bp O (.cons h1 h2) h hA hL λcs' s' H' cM vs hS bJ ef hK hv hl h'=>⟨O.nu.keeps bJ.F.keep,next _ _ _ cM vs hS bJ ef hK hv h'⟩;rw [notStar h1] at run ⊢;exact evalArgs_plain run
theorem xG (hS:cO s ba)(hK:dJ cs uT)(h:e9 (model Γ.prog Γ.w) G.A (.call f ⟨vs,[]⟩) (iD G fm uT ba Q) ba):ey (model Γ.prog Γ.w) G.A (call f vs) (bb G fm cs s VR Q) nE ba:=
 lJ (kb h λr s2 z=>by induction z with|mk v s2 z=>exact z.weak hS hK)
theorem JA (FO:jt Γ)(bp:cE Γ k r)(ue:gN Γ k C)(O:G.Ok k)(hp:nh f=true)(hg:cq G.sc f.s=true)(hd:yP f=false)(hm:bZ (ME n G.sc) es ps)
  (h:(nX f).isSome=true/\nH r es m H λvs H=>C.fn f vs H Q) (hA:At G fm cs s H) (hL:aw G fm cs m):
  ey (model Γ.prog Γ.w) G.A (eval (.Call (.Name f.s p) ps [] pos) G.env) (bb G fm cs s VR Q) nE s:=by
 obtain ⟨g,Cv⟩:=Option.isSome_iff_exists.mp h.1;have hf:=FO.EE _ _ Cv hp;have he:eval (.Call (.Name f.s p) ps [] pos) G.env=(do callWith pos (<- eval (.Name f.s p) G.env) [] (backTo pos (starEach ps G.env)) (backToKw pos (keywordEach [] G.env))):=rfl;rw [he];exact aE (oY O hg hd hf.1 hA (ph bp O (keeps_K (gf hf.2).1) hm h.2 hA hL λcs' s' H' cM vs hS bJ ef hK hv h'=>xG hS hK (ue.fn G O f cM vs H' Q hp hv h' fm cs' s' bJ)))
theorem NY (KO:gE Γ)(FO:jt Γ)(bp:cE Γ k r)(ue:gN Γ k C)(O:G.Ok k)(hp:tJ nm=true)(rG:(p.endLine==pos.line)=true)(hlen:ps.length<30)(hv:NA ov)(ho:ME n G.sc o ov)(hm:bZ (ME n G.sc) es ps)
  (h:r.E o m H λv H=>ki H (λnm v kd=>sD kd nm=true/\nH r es m H λvs H=>pX C H kd v nm vs Q) nm v) (hA:At G fm cs s H) (hL:aw G fm cs m):
  ey (model Γ.prog Γ.w) G.A (eval (.Call (.Attribute ov nm.s p) ps [] pos) G.env) (bb G fm cs s VR Q) nE s:=by
 simp only [A8 rG hlen hv hm];refine aE (eU bp O ho h hA hL λcs' s' H' av cv hS bJ ef hK hv h'=>aE (wpAny_standAt (aE (wpAny_holding ?_))));induction h' with
 |inst nm a c fs hH hc hl h'=>
  rw [show cv=_ from hv];obtain ⟨g,hg⟩:=Option.isSome_iff_exists.mp h'.1;have SS:lR c nm=true:=by unfold lR;rw [hp];rfl
  refine cX (FO.GB _ _ _ hg SS) λf1 f2=>?_;exact xB KO O bJ hH hc hl f1 f2 (ph bp O (keeps_K (gf f2).1) hm h'.2 bJ ef λkO s2 H2 cM vs Ai mK Sn AY ED h4=>xG (hS.trans Ai) (hK.trans AY) (ue.me G O _ nm (.ref a::cM) (.ref a::vs) H2 Q SS ⟨rfl,ED⟩ h4 fm kO s2 mK))
 |append=>exact absurd hp (by decide)
 |extend=>exact absurd hp (by decide)
 |pop=>exact absurd hp (by decide)
 |get=>exact absurd hp (by decide)
end
section
variable {G:Gx Γ}
theorem NZ (FO:jt Γ)(ue:gN Γ k C)(O:G.Ok (k+1))(hp:pY c=true)(hc:d5 c=true)(SE:(meths c .bI).isSome=true)(hv:dK vs cvs)(h:∀a,H a=none->C.aB c .bI (.ref a::vs) (H.upd a (.inst c [])) λv H=>v=.none/\Q (.ref a) H)
  (hA:At G fm cs s H):ey (model Γ.prog Γ.w) G.A (call (.ref (Γ.X.cls c)) cvs) (bb G fm cs s VR Q) nE s:=by
 have X:=O.nu.keeps hA.F.keep;have SS:lR c .bI=true:=by unfold lR;rw [hp];rfl
 obtain ⟨g,hg⟩:=Option.isSome_iff_exists.mp SE;obtain ⟨f1,f2⟩:=FO.GB _ _ _ hg SS;refine lJ (Wc hA.F hA.N X (FO.made _ hc) f1 (beq_iff_eq.mp (gf f2).2) λx dx h' F' N' lo fX=>?_);have hx:H x=none:=uW O hA (λc hc e=>by have q:=lo _ (bO hc);rw [e] at q;exact absurd (Nat.lt_trans q fX) (Nat.lt_irrefl _)) (N'.fresh (.head _));have z:=hA.made F' N' lo fX hc;refine kb (ue.me _ (O.under (Γ.X.cls c) cvs) c .bI (.ref x::vs) (.ref x::cvs) _ _ SS ⟨rfl,hv⟩ (h x hx) fm _ _ (.mk z.F z.N z.R)) λrr s2 z=>?_;obtain ⟨e,y⟩:=made_post z;subst e;exact ⟨rfl,y⟩
theorem SU (FO:jt Γ)(CO:i6 Γ)(bp:cE Γ (k+1) r)(ue:gN Γ k C)(O:G.Ok (k+1))(hp:pY c=true)(hg:cq G.sc c.s=true)(hd:yP c=false)(hm:bZ (ME n G.sc) es ps)
  (h:d5 c=true/\nH r es m H λvs H=>∀a,H a=none->C.aB c .bI (.ref a::vs) (H.upd a (.inst c [])) λv H=>v=.none/\Q (.ref a) H) (hA:At G fm cs s H) (hL:aw G fm cs m):
  ey (model Γ.prog Γ.w) G.A (eval (.Call (.Name c.s p) ps [] pos) G.env) (bb G fm cs s VR Q) nE s:=by
 have SE:(meths c .bI).isSome=true:=by obtain rfl:=beq_iff_eq.mp hp;rfl
 have he:eval (.Call (.Name c.s p) ps [] pos) G.env=(do callWith pos (<- eval (.Name c.s p) G.env) [] (backTo pos (starEach ps G.env)) (backToKw pos (keywordEach [] G.env))):=rfl;refine (he)▸?_;refine aE (uZ CO O hA hg hd (by rw [h.1];rfl) (ph bp O (keeps_K (FO.special _ h.1)) hm h.2 hA hL λcs' s' H' cM vs hS bJ ef hK hv h'=>?_));exact bN (NZ FO ue O hp h.1 SE hv h' bJ) (λZ Z z=>z.weak hS hK) λZ Z x=>x
theorem JB (GO:iN Γ)(bp:cE Γ k r)(O:G.Ok k)(hg:cq G.sc "bytearray"=true)(hm:ME n G.sc e x)(h:r.E e m H λv H=>sC H Q v) (hA:At G fm cs s H) (hL:aw G fm cs m):
  ey (model Γ.prog Γ.w) G.A (eval (.Call (.Name "bytearray" p) [x] [] pos) G.env) (bb G fm cs s VR Q) nE s:=by
 have he:eval (.Call (.Name "bytearray" p) [x] [] pos) G.env=(do callWith pos (<- eval (.Name "bytearray" p) G.env) [] (backTo pos (starEach [x] G.env)) (backToKw pos (keywordEach [] G.env))):=rfl;refine (he)▸?_;refine aE (oZ (cv:=.type "bytearray") O hg (by decide) (GO.bi "bytearray" (by decide)) (by decide+kernel) (by decide) hA ?_);refine ph bp O (λh Z=>⟨.machine,.inr (.inl rfl),Looks.of_pure rfl⟩) (.cons hm .nil) (Q1:=Zn λv H=>sC H Q v) h hA hL λcs' s' H' cM vs hS bJ ef hK hv h'=>?_;refine nK (dK.one hv h') λav v dp v1 v2=>?_;subst dp;induction v2 with|mk n i0 i1 q=>
 obtain ⟨t,rfl⟩:=v1;refine ML i0 i1 λh' o hk Ah ho=>?_;have hLs:G.L<s'.heap.objs.size:=bJ.F.ns.lt;refine ⟨hS.trans (.mk rfl rfl rfl),(some s'.heap.objs.size,s'.heap.objs.size,o)::cs',_,.ref s'.heap.objs.size,(.mk (bJ.F.keeps hk) (λp hp=>?_) (bJ.R.new (o':=.bytes) (fresh_ne bJ) (.mk o (.head _)))),hK.trans λc hc Z=>.tail _ hc,rfl,q _ (uU O bJ)⟩;rcases List.mem_cons.mp hp with e|hp
 ·rw [e]
  exact ⟨ho,Nat.ne_of_gt hLs,by
   induction q:G.h₀.get? s'.heap.objs.size with
   |none=>rfl
   |some o=>exact absurd (Heap.lt_size (bJ.F.keep _ _ q)) (Nat.lt_irrefl _)⟩
 ·exact ⟨hk _ _ (bJ.N p hp).1,(bJ.N p hp).2⟩
end
section
variable {G:Gx Γ}
theorem ZO (FF:Facts Γ)(bp:cE Γ (k+1) r)(ue:gN Γ k C)(O:G.Ok (k+1))(hm:Dd G.sc e pe)(h:tI C r e m H Q)(hA:At G fm cs s H)(hL:aw G fm cs m):
  ey (model Γ.prog Γ.w) G.A (eval pe G.env) (bb G fm cs s VR Q) nE s:=by
 have Wd:gN Γ (k+1) C:=(.mk (λG O=>ue.fn G (O.mono (Nat.le_succ k))) (λG O=>ue.me G (O.mono (Nat.le_succ k))));induction hm with
 |dQ f es ps p q h0 h1 h2 h3=>exact JA FF.FO bp Wd O h0 h1 h2 h3 h hA hL
 |new c es ps p q h0 h1 h2 h3=>exact SU FF.FO FF.CO bp ue O h0 h1 h2 h3 h hA hL
 |aB o nm es v ps p q g1 h1 h2 h3 h4 h5=>exact NY FF.KO FF.FO bp Wd O g1 h1 h2 h3 h4 h5 h hA hL
 |kU e x p q h0 h1=>exact JB FF.GO bp O h0 h1 h hA hL
def ES (Γ:Cx)(k:Nat)(r:Ev):Prop:=∀(G:Gx Γ),G.Ok k->G.loc=G.L->∀n st ps m H Q,Qp n G.sc st ps->r.S st m H Q->∀fm cs s,At G fm cs s H->aw G fm cs m->
 ey (model Γ.prog Γ.w) G.A (exec ps G.env) (dj G cs s Q) nE s
theorem i8 (EM:ES Γ k r)(O:G.Ok k)(de:G.loc=G.L)(hm:bZ (Qp n G.sc) ss ps):∀{m:Loc}{H:Hp}{Q:FP},eK r ss m H Q->∀{fm cs s},At G fm cs s H->aw G fm cs m->
  ey (model Γ.prog Γ.w) G.A (execs ps G.env) (dj G cs s Q) nE s:=by
 induction hm with
 |nil=>intro m H Q h fm cs s hA hL;exact j9 (wpAny_execs_nil (.mk .refl hA .refl hL .next h))
 |cons h1 h2 ih=>
  intro m H Q h fm cs s hA hL;refine vm (bN (EM G O de n _ _ m H _ h1 h fm cs s hA hL) (λf s1 z=>?_) λZ Z z=>z);obtain ⟨hS,fm1,zZ,H1,m1,af,lW,L9,Cw,hf,hq⟩:=z;induction hf with
  |next=>exact bN (ih hq lW Cw) (λZ Z z=>z.weak hS L9) λZ Z z=>z
  |brk=>exact .mk hS lW L9 Cw .brk hq
  |ret hv=>exact .mk hS lW L9 Cw (.ret hv) hq
theorem Bl (FF:Facts Γ)(pP:ju Γ k C)(ue:gN Γ k C)(j:Nat)(O:G.Ok (k+1))(hm:Dd G.sc e pe)(h:(ev C j).E e m H Q)(hA:At G fm cs s H)(hL:aw G fm cs m):
  ey (model Γ.prog Γ.w) G.A (eval pe G.env) (bb G fm cs s VR Q) nE s:=by
 induction j with
 |zero=>exact h.elim
 |succ j=>exact ZO FF (EN FF pP j).E ue O hm h hA hL
theorem N6 (hm:Dd G.sc e pe)(env:Env):isTrue pe env (eval pe env)=(do let v <- eval pe env;standAt pe.pos;holding [v] (truthy v)):=by induction hm<;>rfl
theorem JC (FF:Facts Γ)(pP:ju Γ k C)(ue:gN Γ k C)(j:Nat)(O:G.Ok (k+1))(hm:Dd G.sc e pe)(h:(ev C j).T (.jq e) m H Q)(hA:At G fm cs s H)(hL:aw G fm cs m):
  ey (model Γ.prog Γ.w) G.A (isTrue (.UnaryOp .Not pe p) G.env (eval (.UnaryOp .Not pe p) G.env)) (bb G fm cs s HR Q) nE s:=by
 cases j with
 |zero=>exact h.elim
 |succ j=>cases j with
  |zero=>exact (show False from h).elim
  |succ j=>
   have h':(ev C j).E e m H (jJ λb H=>Q (!b) H):=by induction hm<;>exact h
   refine vn ?_;rw [N6 hm];refine dg (bN (Bl FF pP ue j O hm h' hA hL) (λv s1 z=>?_) λZ Z x=>x);obtain ⟨z1,kO,H2,av,z2,z3,z4,z5⟩:=z;refine aE (wpAny_standAt (ji ?_));induction z5 with|mk b z5=>
   rw [show v=_ from z4];exact j9 (wpAny_truthy_bool (.mk z1 z2 z3 rfl z5))
theorem N7 (FF:Facts Γ)(pP:ju Γ k C)(ue:gN Γ k C)(j:Nat)(EM:ES Γ (k+1) (ev C j)):ES Γ (k+1) (ev C (j+1)):=by
 intro G O de n st ps m H Q hm h fm cs s hA hL;cases n with
 |zero=>exact hm.elim
 |succ n=>
  have X:=EN FF pP j;have fin:∀{t e:List Internal.S}{pt pe:List Stmt},bZ (Qp n G.sc) t pt->bZ (Qp n G.sc) e pe->∀(b:Bool) s1,bb G fm cs s HR (λ(b:Bool) H=>if b then eK (ev C j) t m H Q else eK (ev C j) e m H Q) b s1->
    if b then ey (model Γ.prog Γ.w) G.A (execs pt G.env) (dj G cs s Q) nE s1 else ey (model Γ.prog Γ.w) G.A (execs pe G.env) (dj G cs s Q) nE s1:=λh2 h3 b s1 z=>by
   obtain ⟨z1,kO,H2,av,z2,z3,z4,z5⟩:=z;obtain rfl:av=b:=z4;induction av
   ·exact bN (i8 EM O de h3 z5 z2 (hL.keep z3)) (λZ Z z=>z.weak z1 z3) λZ Z x=>x
   ·exact bN (i8 EM O de h2 z5 z2 (hL.keep z3)) (λZ Z z=>z.weak z1 z3) λZ Z x=>x
  replace hm:zY (bZ (Qp n G.sc)) G.sc st ps:=hm;induction hm with
  |plain st ps hm=>exact j9 ((EN FF pP (j+1)).S G O de 40 st ps m H Q hm h fm cs s hA hL)
  |expr e v p h1=>
   refine Jx (bN (Bl FF pP ue j O h1 h hA hL) (λv s1 z=>?_) λZ Z x=>x) (by unfold interactive;refine (?_:((G.sc.kind==.module)&&_)=false);rw [O.kind];rfl) (by induction h1<;>rfl);obtain ⟨z1,kO,H2,av,z2,z3,z4,z5⟩:=z;exact .mk z1 z2 z3 (hL.keep z3) .next z5
  |asg x e p v q hx h1=>
   refine ud (bN (Bl FF pP ue j O h1 h hA hL) (λv s1 z=>?_) λZ Z x=>x) (by induction h1<;>rfl);obtain ⟨z1,kO,H2,av,z2,z3,z4,z5⟩:=z;exact ic FF.KO de O hx z4 z2 (hL.keep z3) λZ iP dZ mH=>.mk (z1.trans iP) dZ z3 mH .next z5
  |ag o x e ov p v q h1 h2=>
   refine oh (bN (Bl FF pP ue j O h2 h hA hL) (λv s1 z=>?_) λZ Z x=>x) xx;obtain ⟨z1,kO,H2,av,z2,z3,z4,z5⟩:=z;exact eU X.E O h1 z5 z2 (hL.keep z3) λZ Z Z Z Z iP dZ mH mI hw lU=>
    wpAny_mono (n4 FF.KO O dZ hw z4 lU) (λZ Z y=>by obtain ⟨y1,I4,H3,u3,y2,y3,u4,y4⟩:=y;exact .mk ((z1.trans iP).trans y1) y2 ((z3.trans mI).trans y3) (mH.keep y3) .next y4) λZ Z x=>x
  |unpack xs e ts kk p f as kw cp q hx h1=>
   refine sP (bN (Bl FF pP ue j O h1 h hA hL) (λv s1 z=>?_) λZ Z x=>x) rfl rfl;obtain ⟨z1,kO,H2,av,z2,z3,z4,z5⟩:=z;exact wpAny_mono (u0 FF.KO de O hx z5 z4 z2 (hL.keep z3)) (λZ Z z=>z.weak z1 z3) λZ Z x=>x
  |ez c t e pc pt pe q h1 h2 h3=>exact Jy (bN (j9 (X.T G O 30 c _ m H _ h1 h fm cs s hA hL)) (fin h2 h3) λZ Z x=>x)
  |ifN c t e pc pt pe p q h1 h2 h3=>exact Jy (bN (JC FF pP ue j O h1 h hA hL) (fin h2 h3) λZ Z x=>x)
  |iy x it b p gZ pb q ne hx hi hb=>
   refine NW (wpAny_mono (rH FF.GO X.E O ne hi (show wW (ev C j) it m H λs H=>nZ (ev C j) (bind1 x) s b s.items m H Q from h) hA hL) (λxv s1 h1=>wpAny_mono h1 (λiv s2 t8=>?_) λZ Z z=>z.elim) λZ Z z=>z.elim) (lX hi);refine t8 _ λI src Sh cs' H' o q11 hS bJ hK hI uD hsh T hQ=>?_;clear t8;obtain rfl:=q11;exact w3 (lB G (ev C j) (bind1 x) src b Q I Sh cs s) (λn s' z=>Jh (R:=λr s'=>match r with|.ok f=>dj G cs s Q f s'|.error e=>False) O T (Be FF.KO O de hx) hI z (λf s' z=>z) (λs' h=>h) λh hA hL k=>bN (i8 EM O de hb h hA hL) k λZ Z z=>z) _ (.mk 0 fm cs' H' m o rfl (Nat.zero_le _) hS bJ hK uD hsh (hL.keep hK) hQ)
  |nS b pb h0 hs q hb=>exact NU (i8 EM O de hb h hA hL)
theorem Qz (FF:Facts Γ)(pP:ju Γ k C)(ue:gN Γ k C)(j:Nat):ES Γ (k+1) (ev C j):=by
 induction j with
 |zero=>exact λZ Z Z Z Z Z Z Z Z Z h=>h.elim
 |succ j ih=>exact N7 FF pP ue j ih
theorem Bm (FF:Facts Γ)(pP:ju Γ k C)(ue:gN Γ k C)(O:G.Ok (k+2))(hg:yY Γ.K a g)(hv:dK vs cvs)(h:nc C g vs H Q)(hA:At G fm cs s H):
  e9 (model Γ.prog Γ.w) G.A (.call (.ref a) ⟨cvs,[]⟩) (iD G fm cs s Q) s:=by
 refine (xA FF.KO O hg hv h.1 hA) _ λfo name qual params body scope dV kV doc pm ny ct an binds h1 h2 h3 h4 h5 h6 h7 h8 h9 run=>?_;refine SR O.below hA.F hA.N O.top.nolimit O.fr O.ff O.fk h1 h2 h3 (by have:=O.depth;omega) h4 h5 h6 ?_ h7 h8 h9;intro g' L' h₁ tk cells F1 N1 CA BG st lo;refine (run g' L' h₁ tk cells F1 N1 CA BG (O.nu.keeps st) (O.top.keeps st) (λb o e=>st b o (O.ro b o e)) lo) _ λG' n6 cs' O' e1 e2 e3 e4 bJ ef q12 kp=>?_;obtain rfl:=q12;have z:=i8 (Qz FF pP ue 40) O' e1 e4 h.2 bJ ef;rw [e2,e3] at z;exact bN z (λfl s' q=>A5 (G:=G) (fm:=fm) (s:=s) kp q (.mk rfl rfl rfl)) λZ Z q=>q.elim
theorem GP (FF:Facts Γ)(j:Nat):gN Γ (2*j) (aj j):=by
 induction j with
 |zero=>exact (.mk (λZ Z Z Z Z Z Z Z Z h=>h.elim) (λZ Z Z Z Z Z Z Z Z Z h=>h.elim))
 |succ j ih=>
  refine (.mk (λG O f vs cvs H Q hp hv h fm cs s hA=>?_) (λG O c n vs cvs H Q hp hv h fm cs s hA=>?_))
  ·refine (Jv h) _ λg hg h'=>?_
   exact Bm FF (vj FF j) ih O (FF.FO.EE _ _ hg hp).2 hv h' hA
  ·refine (Jw h) _ λg hg h'=>?_
   exact Bm FF (vj FF j) ih O (FF.FO.GB _ _ _ hg hp).2 hv h' hA
end
abbrev Pf (p:Prop):Type:=Option (PLift p)
theorem Pf.out {o:Pf p}(h:o.isSome=true):p:=(Option.get o h).down
noncomputable def bd {p q:Prop}(o:Pf p)(k:p->Pf q):Pf q:=o.bind λh=>k h.down
noncomputable abbrev yes {p:Prop}(h:p):Pf p:=some ⟨h⟩
noncomputable def dD (p:Prop)[Decidable p]:Pf p:=if h:p then some ⟨h⟩ else none
noncomputable abbrev dB (b:Bool):Pf (b=true):=dD _
noncomputable abbrev dN (b:Bool):Pf (b=false):=dD _
noncomputable def dS (a b:Str):Pf (a=b):=bd (dB (a==b)) λh=>yes (beq_iff_eq.mp h)
noncomputable def dA {α β:Type}{R:α->β->Prop}(f:∀e p,Pf (R e p)):∀(es:List α)(ps:List β),Pf (bZ R es ps)
 |[],[]=>yes .nil
 |e::es,p::ps=>bd (f e p) λh=>bd (dA f es ps) λt=>yes (.cons h t)
 |_,_=>none
section
variable {P:PySem.Expr->Prop}
noncomputable def CC (e:PySem.Expr)(k_const:∀c k p,Pf (P (.Constant c k p)):=λZ Z Z=>none) (k_name:∀i p,Pf (P (.Name i p)):=λZ Z=>none) (k_attr:∀v a p,Pf (P (.Attribute v a p)):=λZ Z Z=>none) (k_bin:∀l o r p,Pf (P (.BinOp l o r p)):=λZ Z Z Z=>none) (k_cmp:∀l os rs p,Pf (P (.Compare l os rs p)):=λZ Z Z Z=>none) (k_bool:∀o vs p,Pf (P (.BoolOp o vs p)):=λZ Z Z=>none) (k_un:∀o l p,Pf (P (.UnaryOp o l p)):=λZ Z Z=>none) (k_ifx:∀t l r p,Pf (P (.IfExp t l r p)):=λZ Z Z Z=>none) (k_tup:∀es k p,Pf (P (.Tuple es k p)):=λZ Z Z=>none) (k_lst:∀es p,Pf (P (.List es p)):=λZ Z=>none) (k_dict:∀ks vs p,Pf (P (.Dict ks vs p)):=λZ Z Z=>none) (k_sub:∀v s p,Pf (P (.Subscript v s p)):=λZ Z Z=>none) (k_slice:∀a b c p,Pf (P (.Slice a b c p)):=λZ Z Z Z=>none) (k_call:∀f as kw p,Pf (P (.Call f as kw p)):=λZ Z Z Z=>none) (k_comp:∀e gs sc p,Pf (P (.ListComp e gs sc p)):=λZ Z Z Z=>none):Pf (P e):=match e with
 |.Constant c k p=>k_const c k p
 |.Name i p=>k_name i p
 |.Attribute v a p=>k_attr v a p
 |.BinOp l o r p=>k_bin l o r p
 |.Compare l os rs p=>k_cmp l os rs p
 |.BoolOp o vs p=>k_bool o vs p
 |.UnaryOp o l p=>k_un o l p
 |.IfExp t l r p=>k_ifx t l r p
 |.Tuple es k p=>k_tup es k p
 |.List es p=>k_lst es p
 |.Dict ks vs p=>k_dict ks vs p
 |.Subscript v s p=>k_sub v s p
 |.Slice a b c p=>k_slice a b c p
 |.Call f as kw p=>k_call f as kw p
 |.ListComp e gs sc p=>k_comp e gs sc p
 |_=>none
noncomputable def pq (v:PySem.Expr)(k:∀c k p,Pf (P (.Constant c k p))):Pf (P v):=CC v (k_const:=k)
noncomputable def fz (v:PySem.Expr)(k:∀i p,Pf (P (.Name i p))):Pf (P v):=CC v (k_name:=k)
noncomputable def sQ (v:PySem.Expr)(k:∀v a p,Pf (P (.Attribute v a p))):Pf (P v):=CC v (k_attr:=k)
noncomputable def We (v:PySem.Expr)(k:∀l o r p,Pf (P (.BinOp l o r p))):Pf (P v):=CC v (k_bin:=k)
noncomputable def QA (v:PySem.Expr)(k:∀l os rs p,Pf (P (.Compare l os rs p))):Pf (P v):=CC v (k_cmp:=k)
noncomputable def JD (v:PySem.Expr)(k:∀o vs p,Pf (P (.BoolOp o vs p))):Pf (P v):=CC v (k_bool:=k)
noncomputable def SV (v:PySem.Expr)(k:∀o l p,Pf (P (.UnaryOp o l p))):Pf (P v):=CC v (k_un:=k)
noncomputable def Wf (v:PySem.Expr)(k:∀t l r p,Pf (P (.IfExp t l r p))):Pf (P v):=CC v (k_ifx:=k)
noncomputable def vo (v:PySem.Expr)(k:∀es k p,Pf (P (.Tuple es k p))):Pf (P v):=CC v (k_tup:=k)
noncomputable def JE (v:PySem.Expr)(k:∀es p,Pf (P (.List es p))):Pf (P v):=CC v (k_lst:=k)
noncomputable def SW (v:PySem.Expr)(k:∀ks vs p,Pf (P (.Dict ks vs p))):Pf (P v):=CC v (k_dict:=k)
noncomputable def Bn (v:PySem.Expr)(k:∀v s p,Pf (P (.Subscript v s p))):Pf (P v):=CC v (k_sub:=k)
noncomputable def ET (v:PySem.Expr)(k:∀a b c p,Pf (P (.Slice a b c p))):Pf (P v):=CC v (k_slice:=k)
noncomputable def Dz (v:PySem.Expr)(k:∀e gs sc p,Pf (P (.ListComp e gs sc p))):Pf (P v):=CC v (k_comp:=k)
noncomputable def N9 (v:PySem.Expr)(k:∀f as kw p,Pf (P (.Call f as kw p))):Pf (P v):=CC v (k_call:=k)
noncomputable def Oa {α:Type}{P:List α->Prop}(l:List α)(k:Pf (P [])):Pf (P l):=match l with|[]=>k|_::_=>none
noncomputable def Yx {α:Type}{P:List α->Prop}(l:List α)(k:∀x r,Pf (P (x::r))):Pf (P l):=match l with|[]=>none|x::r=>k x r
noncomputable def DA {α:Type}{P:List α->Prop}(l:List α)(k:∀x,Pf (P [x])):Pf (P l):=Yx l λx r=>Oa (P:=λr=>P (x::r)) r (k x)
noncomputable def Bo {α:Type}{P:List α->Prop}(l:List α)(k:∀x y,Pf (P [x,y])):Pf (P l):=Yx l λx r=>DA (P:=λr=>P (x::r)) r (k x)
noncomputable def vq (v:PySem.Expr)(k:∀f as p,Pf (P (.Call f as [] p))):Pf (P v):=N9 v λf as kw p=>Oa (P:=λkw=>P (.Call f as kw p)) kw (k f as p)
noncomputable def SX (e:PySem.Expr)(sc:Scope)(id:Str)(k:cq sc id=true->∀as p q,Pf (P (.Call (.Name id p) as [] q))):Pf (P e):=
 vq e λf as q=>fz (P:=λf=>P (.Call f as [] q)) f λi p=>bd (dS i id) λh=>bd (dB (cq sc id)) λg=>h▸k g as p q
noncomputable def rM (e:PySem.Expr)(sc:Scope)(id:Str)(k:cq sc id=true->∀x p q,Pf (P (.Call (.Name id p) [x] [] q))):Pf (P e):=
 SX e sc id λg as p q=>DA (P:=λas=>P (.Call (.Name id p) as [] q)) as λx=>k g x p q
noncomputable def JF (e:PySem.Expr)(sc:Scope)(id:Str)(k:cq sc id=true->∀x y p q,Pf (P (.Call (.Name id p) [x,y] [] q))):Pf (P e):=
 SX e sc id λg as p q=>Bo (P:=λas=>P (.Call (.Name id p) as [] q)) as λx y=>k g x y p q
end
noncomputable def ZP (e:PySem.Expr):Pf (NA e):=CC e (k_name:=λi p=>yes (.name i p)) (k_attr:=λv a p=>yes (.attr v a p))
noncomputable def ZQ (o:Op)(p:Operator):Pf (MU o p):=dD (p=opM o)
noncomputable def dCp (o:Cp)(p:CmpOp):Pf (Vn o p):=dD (p=cpM o)
section
variable {R:Scope->Internal.E->PySem.Expr->Prop}(f:∀sc e p,Pf (R sc e p)) (sc:Scope)
noncomputable def dI (it:It)(pe:PySem.Expr):Pf (MI (R sc) sc it pe):=match it with
 |.over e=>bd (f sc e pe) λh=>yes (.over e pe h)
 |.range e=>rM pe sc "range" λg x p q=>bd (f sc e x) λk=>yes (.range e x p q g k)
 |.mD a b=>JF pe sc "range" λg x y p q=>bd (f sc a x) λk=>bd (f sc b y) λl=>yes (.mD a b x y p q g k l)
 |.enum e=>rM pe sc "enumerate" λg x p q=>bd (f sc e x) λk=>yes (.enum e x p q g k)
noncomputable def dC (R:Internal.E->PySem.Expr->Prop)(f:∀e p,Pf (R e p)) (c:Option Internal.E) (ps:List PySem.Expr):Pf (MC R c ps):=match c with
 |none=>Oa ps (yes .none)
 |some c=>DA ps λp=>bd (f c p) λh=>yes (.some c p h)
noncomputable def Yy {P:PySem.Expr->Prop}(e:PySem.Expr)(x:Nm)(k:cq sc x.s=true->yP x=false->∀as p q,Pf (P (.Call (.Name x.s p) as [] q))):Pf (P e):=SX e sc x.s λg as p q=>bd (dN (yP x)) λd=>k g d as p q
def dV (e:Internal.E)(pe:PySem.Expr):Pf (MV R sc e pe):=match e with
 |.none=>pq pe λc k p=>bd (dD (c=.none)) λh=>yes (h▸.none k p)
 |.tt=>pq pe λc k p=>bd (dD (c=.bool true)) λh=>yes (h▸.tt k p)
 |.ff=>pq pe λc k p=>bd (dD (c=.bool false)) λh=>yes (h▸.ff k p)
 |.int i=>pq pe λc k p=>bd (dD (c=.int i)) λh=>yes (h▸.int i k p)
 |.str x=>pq pe λc k p=>bd (dD (c=.str x.s)) λh=>yes (h▸.str x k p)
 |.var x=>fz pe λi p=>bd (dS i x.s) λh=>bd (dB (ng sc x)) λh1=>bd (dN (yP x)) λh2=>yes (h▸.var x p h1 h2)
 |.kL x=>fz pe λi p=>bd (dS i x.s) λh=>bd (dB (cq sc x.s)) λh1=>bd (dN (yP x)) λh2=>yes (h▸.kL x p h1 h2)
 |.attr o x=>sQ pe λv a p=>bd (dS a x.s) λh=>bd (ZP v) λh1=>bd (f sc o v) λh2=>yes (h▸.attr o x v p h1 h2)
 |.bin op a b=>We pe λl o r p=>bd (ZQ op o) λh=>bd (f sc a l) λh1=>bd (f sc b r) λh2=>yes (.bin op o a b l r p h h1 h2)
 |.tup es=>vo pe λps k p=>bd (dD (ps.length<1000)) λh=>bd (dA (f sc) es ps) λh1=>yes (.tup es ps k p h h1)
 |.lst es=>JE pe λps p=>bd (dD (ps.length<1000)) λh=>bd (dA (f sc) es ps) λh1=>yes (.lst es ps p h h1)
 |.m9=>SW pe λks vs p=>Oa (P:=λks=>MV R sc _ (.Dict ks vs p)) ks (Oa (P:=λvs=>MV R sc _ (.Dict [] vs p)) vs (yes (.m9 p)))
 |.idx a i=>Bn pe λv s p=>bd (f sc a v) λh1=>bd (f sc i s) λh2=>yes (.idx a i v s p h1 h2)
 |.AB a k=>Bn pe λv s p=>fz (P:=λv=>MV R sc _ (.Subscript v s p)) v λi p0=>ET (P:=λs=>MV R sc _ (.Subscript _ s p)) s λx y z p1=>match x,y,z with
  |none,some u,none=>bd (f sc a (.Name i p0)) λh1=>bd (f sc k u) λh2=>yes (.AB a k i p0 u p1 p h1 h2)
  |_,_,_=>none
 |.rev a=>Bn pe λv s p=>fz (P:=λv=>MV R sc _ (.Subscript v s p)) v λi p0=>ET (P:=λs=>MV R sc _ (.Subscript _ s p)) s λx y z p3=>match x,y,z with
  |none,none,some t=>bd (f sc a (.Name i p0)) λh1=>SV (P:=λt=>MV R sc _ (.Subscript _ (.Slice none none (some t) p3) p)) t λo l p2=>bd (dD (o=.USub)) λe=>pq (P:=λl=>MV R sc _ (.Subscript _ (.Slice none none (some (.UnaryOp o l p2)) p3) p)) l λc kk p1=>bd (dD (c=.int 1)) λe2=>yes (e▸e2▸.rev a i p0 kk p1 p2 p3 p h1)
  |_,_,_=>none
 |.dQ g es=>Yy sc pe g λh d as p q=>bd (dN (nh g)) λh1=>bd (dA (f sc) es as) λh3=>yes (.dQ g es as p q h1 h d h3)
 |.new c es=>Yy sc pe c λh d as p q=>bd (dN (pY c)) λh1=>bd (dA (f sc) es as) λh3=>yes (.new c es as p q h1 h d h3)
 |.aB o n es=>vq pe λfn as q=>sQ (P:=λfn=>MV R sc _ (.Call fn as [] q)) fn λv a p=>bd (dS a n.s) λh=>bd (dN (tJ n)) λh1=>bd (dN (n==.bI)) λh2=>bd (dB (p.endLine==q.line)) λh3=>bd (dD (as.length<30)) λh4=>bd (ZP v) λh5=>bd (f sc o v) λh6=>bd (dA (f sc) es as) λh7=>
   yes (h▸.aB o n es v as p q h1 h2 h3 h4 h5 h6 h7)
 |.iZ e c=>JF pe sc "isinstance" λg x y p q=>fz (P:=λy=>MV R sc _ (.Call (.Name "isinstance" p) [x,y] [] q)) y λj p2=>bd (dS j c.s) λh=>bd (dB (II c)) λh1=>bd (f sc e x) λh2=>bd (dB (cq sc c.s)) λh3=>bd (dN (yP c)) λh4=>yes (h▸.iZ e c x p p2 q g h1 h2 h3 h4)
 |.len e=>rM pe sc "len" λg x p q=>bd (f sc e x) λk=>yes (.len e x p q g k)
 |.abs e=>rM pe sc "abs" λg x p q=>bd (f sc e x) λk=>yes (.abs e x p q g k)
 |.min a b=>JF pe sc "min" λg x y p q=>bd (f sc a x) λk=>bd (f sc b y) λl=>yes (.min a b x y p q g k l)
 |.listOf e=>rM pe sc "list" λg x p q=>bd (f sc e x) λk=>yes (.listOf e x p q g k)
 |.sorted e=>rM pe sc "sorted" λg x p q=>bd (f sc e x) λk=>yes (.sorted e x p q g k)
 |.gw e=>rM pe sc "sorted" λg y p q=>rM (P:=λy=>MV R sc _ (.Call (.Name "sorted" p) [y] [] q)) y sc "set" λg2 x p2 q2=>bd (f sc e x) λk=>yes (.gw e x p q p2 q2 g g2 k)
 |_=>none
noncomputable def dLC (e:Internal.E)(pe:PySem.Expr):Pf (Eu R sc e pe):=match e with
 |.comp elt x it c=>Dz pe λpe gs bY q=>match gs with
  |[⟨tg,gZ,ifs,0⟩]=>fz (P:=λtg=>Eu R sc _ (.ListComp pe [⟨tg,gZ,ifs,0⟩] bY q)) tg λi p=>bd (dS i x.s) λh=>bd (dB (gX it)) λh1=>bd (dB (iB sc bY [x])) λh2=>bd (dI f sc it gZ) λh3=>bd (f (dR bY) elt pe) λh4=>bd (dC (R (dR bY)) (f (dR bY)) c ifs) λh5=>
   yes (h▸.comp elt x it c pe p gZ ifs bY q h1 h2 h3 h4 h5)
  |_=>none
 |.kh elt x y it c=>Dz pe λpe gs bY q=>match gs with
  |[⟨tg,gZ,ifs,0⟩]=>vo (P:=λtg=>Eu R sc _ (.ListComp pe [⟨tg,gZ,ifs,0⟩] bY q)) tg λes kk p=>Bo (P:=λes=>Eu R sc _ (.ListComp pe [⟨.Tuple es kk p,gZ,ifs,0⟩] bY q)) es λt u=>
   fz (P:=λt=>Eu R sc _ (.ListComp pe [⟨.Tuple [t,u] kk p,gZ,ifs,0⟩] bY q)) t λi p1=>fz (P:=λu=>Eu R sc _ (.ListComp pe [⟨.Tuple [.Name i p1,u] kk p,gZ,ifs,0⟩] bY q)) u λj p2=>
   bd (dS i x.s) λh=>bd (dS j y.s) λh'=>bd (dB (iB sc bY [x,y])) λh2=>bd (dI f sc it gZ) λh3=>bd (f (dR bY) elt pe) λh4=>bd (dC (R (dR bY)) (f (dR bY)) c ifs) λh5=>
   yes (h▸h'▸.kh elt x y it c pe p1 p2 kk p gZ ifs bY q h2 h3 h4 h5)
  |_=>none
 |_=>none
noncomputable def alt {p:Prop}(a b:Pf p):Pf p:=match a with|some h=>some h|none=>b
def dEs (e:Internal.E)(pe:PySem.Expr):Pf (yQ R sc e pe):=match e with
 |.cmp op a b=>QA pe λl os rs p=>DA (P:=λos=>yQ R sc _ (.Compare l os rs p)) os λo=>DA (P:=λrs=>yQ R sc _ (.Compare l [o] rs p)) rs λr=>bd (dCp op o) λh=>bd (f sc a l) λh1=>bd (f sc b r) λh2=>yes (.cmp op o a b l r p h h1 h2)
 |.between a b c=>QA pe λl os rs p=>bd (dD (os=[.LtE,.Lt])) λe=>Bo (P:=λrs=>yQ R sc _ (.Compare l os rs p)) rs λr t=>bd (f sc a l) λh1=>bd (f sc b r) λh2=>bd (f sc c t) λh3=>yes (e▸.between a b c l r t p h1 h2 h3)
 |.kM a b=>JD pe λo vs p=>bd (dD (o=.And)) λe=>Bo (P:=λvs=>yQ R sc _ (.BoolOp o vs p)) vs λl r=>bd (f sc a l) λh1=>bd (f sc b r) λh2=>yes (e▸.kM a b l r p h1 h2)
 |.yD a b=>JD pe λo vs p=>bd (dD (o=.Or)) λe=>Bo (P:=λvs=>yQ R sc _ (.BoolOp o vs p)) vs λl r=>bd (f sc a l) λh1=>bd (f sc b r) λh2=>yes (e▸.yD a b l r p h1 h2)
 |.jq a=>SV pe λo l p=>bd (dD (o=.Not)) λe=>bd (f sc a l) λh1=>yes (e▸.jq a l p h1)
 |.ite c a b=>Wf pe λt l r p=>bd (f sc c t) λh0=>bd (f sc a l) λh1=>bd (f sc b r) λh2=>yes (.ite c a b t l r p h0 h1 h2)
 |e=>alt (bd (dB (RC e)) λh1=>bd (dB (MW pe)) λh2=>bd (dV f sc e pe) λh=>yes (.val h1 h2 h)) (bd (dLC f sc e pe) λh=>yes (.lc h))
end
def dE:∀(n:Nat)(sc:Scope)(e:Internal.E)(pe:PySem.Expr),Pf (ME n sc e pe)
 |0,_,_,_=>none
 |n+1,sc,e,pe=>dEs (dE n) sc e pe
noncomputable def ZR (sc:Scope):∀(xs:List Nm)(ps:List PySem.Expr),Pf (HQ sc xs ps)
 |[],ps=>Oa ps (yes .nil)
 |x::xs,ps=>Yx ps λe r=>fz (P:=λe=>HQ sc (x::xs) (e::r)) e λi p=>bd (dS i x.s) λh=>bd (dB (bz sc x)) λh1=>bd (ZR sc xs r) λt=>yes (h▸.cons x xs p r h1 t)
noncomputable def Wg (sc:Scope)(id:Str)(pos:Pos)(e:PySem.Expr):Pf (sE sc id pos e):=Dz e λx gs s p=>bd (dB (sc.kind==.function)) λh1=>bd (dB (pos.line==p.line)) λh2=>bd (dN (s.names.any λn=>n.1==id&&(n.2==.local||n.2==.cell))) λh3=>yes (.mk x gs s p h1 h2 h3)
section
variable {P:Stmt->Prop}
noncomputable def Md (s:Stmt)(k_expr:∀v p,Pf (P (.Expr v p)):=λZ Z=>none) (k_asg:∀t v p,Pf (P (.Assign [t] v p)):=λZ Z Z=>none) (k_aug:∀t o v p,Pf (P (.AugAssign t o v p)):=λZ Z Z Z=>none) (k_if_:∀c t e p,Pf (P (.If c t e p)):=λZ Z Z Z=>none) (k_ret:∀v p,Pf (P (.Return v p)):=λZ Z=>none) (k_for_:∀t i b p,Pf (P (.For t i b [] p)):=λZ Z Z Z=>none) (k_try_:∀b h hs p,Pf (P (.Try b (h::hs) [] [] p)):=λZ Z Z Z=>none) (k_del:∀t p,Pf (P (.Delete [t] p)):=λZ Z=>none) (k_pass:∀p,Pf (P (.Pass p)):=λZ=>none) (k_brk:∀p,Pf (P (.Break p)):=λZ=>none):Pf (P s):=match s with
 |.Expr v p=>k_expr v p
 |.Assign ts v p=>DA (P:=λts=>P (.Assign ts v p)) ts λt=>k_asg t v p
 |.AugAssign t o v p=>k_aug t o v p
 |.If c t e p=>k_if_ c t e p
 |.Return v p=>k_ret v p
 |.For t i b e p=>Oa (P:=λe=>P (.For t i b e p)) e (k_for_ t i b p)
 |.Try b h e f p=>Yx (P:=λh=>P (.Try b h e f p)) h λh hs=>Oa (P:=λe=>P (.Try b (h::hs) e f p)) e (Oa (P:=λf=>P (.Try b (h::hs) [] f p)) f (k_try_ b h hs p))
 |.Delete ts p=>DA (P:=λts=>P (.Delete ts p)) ts λt=>k_del t p
 |.Pass p=>k_pass p
 |.Break p=>k_brk p
 |_=>none
noncomputable def tP (v:Stmt)(k:∀t v p,Pf (P (.Assign [t] v p))):Pf (P v):=Md v (k_asg:=k)
noncomputable def QB (v:Stmt)(k:∀t o v p,Pf (P (.AugAssign t o v p))):Pf (P v):=Md v (k_aug:=k)
noncomputable def JG (v:Stmt)(k:∀t i b p,Pf (P (.For t i b [] p))):Pf (P v):=Md v (k_for_:=k)
noncomputable def JH (v:Stmt)(k:∀v p,Pf (P (.Expr v p))):Pf (P v):=Md v (k_expr:=k)
noncomputable def Wh (v:Stmt)(k:∀c t e p,Pf (P (.If c t e p))):Pf (P v):=Md v (k_if_:=k)
noncomputable def QC (v:Stmt)(k:∀b h hs p,Pf (P (.Try b (h::hs) [] [] p))):Pf (P v):=Md v (k_try_:=k)
noncomputable def Wi (v:Stmt)(k:∀v p,Pf (P (.Return v p))):Pf (P v):=Md v (k_ret:=k)
noncomputable def Wj (v:Stmt)(k:∀t p,Pf (P (.Delete [t] p))):Pf (P v):=Md v (k_del:=k)
noncomputable def SY (v:Stmt)(k:∀p,Pf (P (.Pass p))):Pf (P v):=Md v (k_pass:=k)
noncomputable def Wk (v:Stmt)(k:∀p,Pf (P (.Break p))):Pf (P v):=Md v (k_brk:=k)
end
def dSs {RB:List Internal.S->List Stmt->Prop}(fb:∀e p,Pf (RB e p)) (sc:Scope) (s:Internal.S) (ps:Stmt):Pf (lz (ME 30 sc) (Eu (ME 29) sc) RB sc s ps):=match s with
 |.expr e=>JH ps λv p=>bd (dB (mG v)) λh=>bd (dE 30 sc e v) λh1=>yes (.expr e v p h h1)
 |.asg x e=>tP ps λt v q=>fz (P:=λt=>lz _ _ RB sc _ (.Assign [t] v q)) t λi p=>bd (dS i x.s) λh=>bd (dB (bz sc x)) λh1=>alt (bd (dB (mG v)) λh3=>bd (dE 30 sc e v) λh2=>yes (h▸.asg x e p v q h1 h3 h2)) (bd (Wg sc x.s p v) λh3=>bd (dLC (dE 29) sc e v) λh2=>yes (h▸.Vo x e p v q h1 h3 h2))
 |.ag o x e=>tP ps λt v q=>sQ (P:=λt=>lz _ _ RB sc _ (.Assign [t] v q)) t λov a p=>bd (dS a x.s) λh=>bd (dE 30 sc o ov) λh1=>bd (dE 30 sc e v) λh2=>yes (h▸.ag o x e ov p v q h1 h2)
 |.i3 o i e=>tP ps λt v q=>Bn (P:=λt=>lz _ _ RB sc _ (.Assign [t] v q)) t λov iv p=>bd (dE 30 sc o ov) λh1=>bd (dE 30 sc i iv) λh2=>bd (dE 30 sc e v) λh3=>yes (.i3 o i e ov iv p v q h1 h2 h3)
 |.unpack xs e=>tP ps λt v q=>vo (P:=λt=>lz _ _ RB sc _ (.Assign [t] v q)) t λts kk p=>vq (P:=λv=>lz _ _ RB sc _ (.Assign _ v q)) v λf as cp=>bd (ZR sc xs ts) λh=>bd (dE 30 sc e (.Call f as [] cp)) λh1=>yes (.unpack xs e ts kk p f as [] cp q h h1)
 |.pW x y a b=>tP ps λt v q=>vo (P:=λt=>lz _ _ RB sc _ (.Assign [t] v q)) t λts k1 q1=>vo (P:=λv=>lz _ _ RB sc _ (.Assign _ v q)) v λus k2 q2=>
  Bo (P:=λts=>lz _ _ RB sc _ (.Assign [.Tuple ts k1 q1] _ q)) ts λt1 t2=>Bo (P:=λus=>lz _ _ RB sc _ (.Assign _ (.Tuple us k2 q2) q)) us λu1 u2=>
  fz (P:=λt1=>lz _ _ RB sc _ (.Assign [.Tuple [t1,t2] k1 q1] _ q)) t1 λi p1=>fz (P:=λt2=>lz _ _ RB sc _ (.Assign [.Tuple [_,t2] k1 q1] _ q)) t2 λj p2=>
  JE (P:=λu1=>lz _ _ RB sc _ (.Assign _ (.Tuple [u1,u2] k2 q2) q)) u1 λes ep=>JE (P:=λu2=>lz _ _ RB sc _ (.Assign _ (.Tuple [_,u2] k2 q2) q)) u2 λEi UA=>
  bd (dS i x.s) λh=>bd (dS j y.s) λh'=>bd (dD (x≠y)) λne=>bd (dB (bz sc x)) λhx=>bd (dB (bz sc y)) λhy=>bd (dE 30 sc a (.List es ep)) λh1=>bd (dE 30 sc b (.List Ei UA)) λh2=>bd (dB (p1.line==p2.line)) λhl=>yes (h▸h'▸.pW x y a b p1 p2 k1 q1 es ep Ei UA k2 q2 q ne hx hy h1 h2 hl)
 |.aug x op e=>QB ps λt o v q=>fz (P:=λt=>lz _ _ RB sc _ (.AugAssign t o v q)) t λi p=>bd (dS i x.s) λh=>bd (dB (bz sc x)) λh1=>bd (ZQ op o) λh2=>bd (dE 30 sc e v) λh3=>yes (h▸.aug x op e p o v q h1 h2 h3)
 |.gW o x op e=>QB ps λt po v q=>sQ (P:=λt=>lz _ _ RB sc _ (.AugAssign t po v q)) t λov a p=>bd (dS a x.s) λh=>bd (ZQ op po) λh1=>bd (dE 30 sc o ov) λh2=>bd (dE 30 sc e v) λh3=>yes (h▸.gW o x op e ov p po v q h1 h2 h3)
 |.ez c t e=>Wh ps λpc pt pe q=>bd (dE 30 sc c pc) λh1=>bd (fb t pt) λh2=>bd (fb e pe) λh3=>yes (.ez c t e pc pt pe q h1 h2 h3)
 |.ret e=>Wi ps λv q=>match v with
  |some v=>bd (dE 30 sc e v) λh=>yes (.ret e v q h)
  |none=>match e with
   |.none=>yes (.Vp q)
   |_=>none
 |.iy x it b=>JG ps λt i pb q=>fz (P:=λt=>lz _ _ RB sc _ (.For t i pb [] q)) t λid p=>bd (dS id x.s) λh=>bd (dB (gX it)) λh1=>bd (dB (bz sc x)) λh2=>bd (dI (dE 30) sc it i) λh3=>bd (fb b pb) λh4=>yes (h▸.iy x it b p i pb q h1 h2 h3 h4)
 |.yE x y it b=>JG ps λt i pb q=>vo (P:=λt=>lz _ _ RB sc _ (.For t i pb [] q)) t λts kk p=>Bo (P:=λts=>lz _ _ RB sc _ (.For (.Tuple ts kk p) i pb [] q)) ts λt1 t2=>
  fz (P:=λt1=>lz _ _ RB sc _ (.For (.Tuple [t1,t2] kk p) i pb [] q)) t1 λid p1=>fz (P:=λt2=>lz _ _ RB sc _ (.For (.Tuple [_,t2] kk p) i pb [] q)) t2 λjd p2=>
  bd (dS id x.s) λh=>bd (dS jd y.s) λh'=>bd (dB (gX it)) λh1=>bd (dB (bz sc x)) λh2=>bd (dB (bz sc y)) λh5=>bd (dI (dE 30) sc it i) λh3=>bd (fb b pb) λh4=>yes (h▸h'▸.yE x y it b p1 p2 kk p i pb q h1 h2 h5 h3 h4)
 |.nS b=>QC ps λpb h hs q=>bd (fb b pb) λh1=>yes (.nS b pb h hs q h1)
 |.nT o i=>Wj ps λt q=>Bn (P:=λt=>lz _ _ RB sc _ (.Delete [t] q)) t λov iv p=>bd (dE 30 sc o ov) λh1=>bd (dE 30 sc i iv) λh2=>yes (.nT o i ov iv p q h1 h2)
 |.pass=>SY ps λp=>yes (.pass p)
 |.brk=>Wk ps λp=>yes (.brk p)
 |.dead=>yes (.dead ps)
def ZS:∀(n:Nat)(sc:Scope)(s:Internal.S)(p:Stmt),Pf (MS n sc s p)
 |0,_,_,_=>none
 |n+1,sc,s,p=>dSs (dA (ZS n sc)) sc s p
def Wl (sc:Scope)(e:Internal.E)(pe:PySem.Expr):Pf (Dd sc e pe):=match e with
 |.dQ g es=>Yy sc pe g λh d as p q=>bd (dB (nh g)) λh1=>bd (dA (dE 30 sc) es as) λh3=>yes (.dQ g es as p q h1 h d h3)
 |.new c es=>Yy sc pe c λh d as p q=>bd (dB (pY c)) λh1=>bd (dA (dE 30 sc) es as) λh3=>yes (.new c es as p q h1 h d h3)
 |.aB o n es=>vq pe λfn as q=>sQ (P:=λfn=>Dd sc _ (.Call fn as [] q)) fn λv a p=>bd (dS a n.s) λh=>bd (dB (tJ n)) λh1=>bd (dB (p.endLine==q.line)) λh3=>bd (dD (as.length<30)) λh4=>bd (ZP v) λh5=>bd (dE 30 sc o v) λh6=>bd (dA (dE 30 sc) es as) λh7=>
   yes (h▸.aB o n es v as p q h1 h3 h4 h5 h6 h7)
 |.kU e=>rM pe sc "bytearray" λg x p q=>bd (dE 30 sc e x) λk=>yes (.kU e x p q g k)
 |_=>none
def dPs {RB:List Internal.S->List Stmt->Prop}(fb:∀e p,Pf (RB e p)) (sc:Scope) (s:Internal.S) (ps:Stmt):Pf (zY RB sc s ps):=alt (bd (ZS 40 sc s ps) λh=>yes (.plain s ps h)) (match s with
 |.expr e=>JH ps λv p=>bd (Wl sc e v) λh1=>yes (.expr e v p h1)
 |.asg x e=>tP ps λt v q=>fz (P:=λt=>zY RB sc _ (.Assign [t] v q)) t λi p=>bd (dS i x.s) λh=>bd (dB (bz sc x)) λh1=>bd (Wl sc e v) λh2=>yes (h▸.asg x e p v q h1 h2)
 |.ag o x e=>tP ps λt v q=>sQ (P:=λt=>zY RB sc _ (.Assign [t] v q)) t λov a p=>bd (dS a x.s) λh=>bd (dE 30 sc o ov) λh1=>bd (Wl sc e v) λh2=>yes (h▸.ag o x e ov p v q h1 h2)
 |.unpack xs e=>tP ps λt v q=>vo (P:=λt=>zY RB sc _ (.Assign [t] v q)) t λts kk p=>vq (P:=λv=>zY RB sc _ (.Assign _ v q)) v λf as cp=>bd (ZR sc xs ts) λh=>bd (Wl sc e (.Call f as [] cp)) λh1=>yes (.unpack xs e ts kk p f as [] cp q h h1)
 |.ez c t e=>Wh ps λpc pt pe q=>bd (fb t pt) λh2=>bd (fb e pe) λh3=>alt (bd (dE 30 sc c pc) λh1=>yes (.ez c t e pc pt pe q h1 h2 h3)) (match c with
  |.jq c=>SV (P:=λpc=>zY RB sc _ (.If pc pt pe q)) pc λo l p=>bd (dD (o=.Not)) λh=>bd (Wl sc c l) λh1=>yes (h▸.ifN c t e l pt pe p q h1 h2 h3)
  |_=>none)
 |.iy x it b=>JG ps λt i pb q=>fz (P:=λt=>zY RB sc _ (.For t i pb [] q)) t λid p=>bd (dS id x.s) λh=>bd (dB (gX it)) λh1=>bd (dB (bz sc x)) λh2=>bd (dI (dE 30) sc it i) λh3=>bd (fb b pb) λh4=>yes (h▸.iy x it b p i pb q h1 h2 h3 h4)
 |.nS b=>QC ps λpb h hs q=>bd (fb b pb) λh1=>yes (.nS b pb h hs q h1)
 |_=>none)
def dPP:∀(n:Nat)(sc:Scope)(s:Internal.S)(p:Stmt),Pf (Qp n sc s p)
 |0,_,_,_=>none
 |n+1,sc,s,p=>dPs (dA (dPP n sc)) sc s p
def ZT (K:Frag)(g:Fn)(T:Addr)(o:Option Obj)(e:K.lookup T=o):Pf (A3 K g (.ref T)):=match o,e with
 |some ⟨oc,od,.seq xs n,sl⟩,e=>bd (dD ((g.params==cZ)=true->xs.toList=[.none,.none,.none,.none])) λh=>yes (.seq T oc od xs n sl e h)
 |_,_=>none
def dDf (K:Frag)(g:Fn)(v:Value):Pf (A3 K g v):=match v with
 |.none=>bd (dD ((g.params==cZ)=false)) λh=>yes (.none h)
 |.ref T=>ZT K g T _ rfl
 |_=>none
def dFn {B:Scope->List Internal.S->List Stmt->Prop}(fb:∀sc e p,Pf (B sc e p)) (K:Frag) (a:Addr) (g:Fn):Pf (t9 B K a g):=match e:K.lookup a with
 |some ⟨oc,od,.func ⟨name,qual,params,.stmts b,scope,gl,cl,dV,kV,doc,pm,an,ny,ct,bi⟩,Sr⟩=>bd (dD (oc=.type "function")) λh1=>bd (dD (gl=mainGlobals)) λh2=>bd (dB cl.isEmpty) λh3=>bd (dD (bi=builtinsNs)) λh4=>
  bd (dB (codeIn K ny qual)) λg5=>bd (dB (mL params g)) λg6=>bd (dDf K g dV) λg7=>bd (dB (sJ g scope)) λg8=>bd (dD g.params.Nodup) λg9=>bd (fb scope g.body b) λSs=>
  yes (.mk od Sr name qual params b scope dV kV doc pm an ny ct (by rw [e,h1,h2,List.isEmpty_iff.mp h3,h4]) g5 g6 g7 g8 g9 Ss)
 |_=>none
def ZU:List (Nm×Nat):=[(.fT,138),(.dz,159),(.fY,180),(.eE,201),(.cV,306),(.eF,370),(.bj,413),(.jf,441),(.au,588),(.bV,623),(.aP,747),(.aH,814),(.bw,871),(.aK,1014)]
def fA (c:Nm):Nat:=((ZU.find? λe=>e.1==c).map (·.2)).getD 0
def Wm:List (Nm×Nat):=[(.eR,1025),(.eS,1032),(.iU,1039),(.iT,1046),(.gK,1053),(.nP,1058)]
def Bp (c:Nm):Nat:=((Wm.find? λe=>e.1==c).map (·.2)).getD 0
def Wn:List (Nm×Nm×Nat):=[(.fT,.bI,135),(.fY,.bI,177),(.eE,.bI,198),(.cV,.bI,219),(.cV,.jm,226),(.cV,.dH,233),(.cV,.uH,240),(.cV,.fw,247),(.cV,.my,261),(.cV,.aZ,268),(.cV,.kT,282),(.cV,.oV,289),(.cV,.b5,303),(.eF,.bI,325),(.eF,.ck,346),(.eF,.dt,367),(.bj,.bI,389),(.bj,.uI,396),(.bj,.dt,403),(.jf,.bI,438),(.au,.bI,459),(.au,.ab,466),(.au,.lr,494),(.au,.rm,501),(.au,.iw,508),(.au,.fw,515),(.au,.dt,543),(.au,.kS,550),(.au,.Ax,557),(.au,.b5,564),(.bV,.bI,606),(.bV,.lu,613),(.aP,.bI,641),(.aP,.jk,655),(.aP,.rj,662),(.aP,.jl,669),(.aP,.rp,690),(.aP,.dt,695),(.aH,.bI,766),(.aH,.jm,773),(.aH,.yw,778),(.aH,.m8,785),(.aH,.yA,792),(.aH,.jj,797),(.aH,.uG,804),(.bw,.bI,832),(.bw,.mw,839),(.bw,.iW,846),(.bw,.ke,853),(.aK,.bI,887),(.aK,.jQ,894),(.aK,.Ay,902),(.aK,.yv,909),(.aK,.Aw,914),(.aK,.dU,919),(.aK,.bB,926),(.aK,.yz,933),(.aK,.lr,948),(.aK,.mC,955),(.aK,.fu,962),(.aK,.iw,969),(.aK,.sq,976),(.aK,.fw,983),(.aK,.rq,990),(.aK,.jo,997)]
def GQ (c n:Nm):Nat:=((Wn.find? λe=>e.1==c&&e.2.1==n).map (·.2.2)).getD 0
def QD (K:Frag)(e:Nm×List Nm):Bool:=
 plainGet K (fA e.1) "x"&&hasDictIn K (fA e.1)&&(e.2.all λx=>findIn K (.ref (fA e.1)) x.s==some none&&takerIn K (fA e.1) x.s==some none)&&findIn K (.ref (fA e.1)) "__setattr__"==some (some (.builtin "object.__setattr__"))&&plainOver K (fA e.1)&&
 isIn K (.ref (fA e.1)) (fA e.1)&&plainGet K (fA e.1) "__class__"&&findIn K (.ref (fA e.1)) "__class__"==some (some (.builtin "object.__class__"))&&mroIn K (fA e.1) (.type "object")==some true&&makesIn K (fA e.1)&&keepIn K (.ref (fA e.1))&&
 nsIn K mainGlobals e.1.s==some (some (.ref (fA e.1)))
def Wo:List (Nm×Nm):=[(.fT,.eE),(.fT,.dz),(.eE,.fT),(.eE,.dz),(.fY,.fT),(.fY,.eE),(.fY,.dz)]
noncomputable def Wq (v:V)(c:Value):Bool:=V.casesOn v false (λZ=>false)
 (λi=>Value.casesOn c false false false (λZ=>false) (λj Z=>j==i) (λZ Z=>false) (λZ Z=>false) (λZ Z=>false) (λZ=>false) (λZ=>false) (λZ=>false))
 (λn=>Value.casesOn c false false false (λZ=>false) (λZ Z=>false) (λZ Z=>false) (λt Z=>t==n.s) (λZ Z=>false) (λZ=>false) (λZ=>false) (λZ=>false)) (λZ=>false)
noncomputable def Yz (o:Option (Option Value))(v:V):Bool:=Option.casesOn o false λo=>Option.casesOn o false (Wq v)
noncomputable def ZV (K:Frag)(e:Nm×V):Bool:=Yz (nsIn K mainGlobals e.1.s) e.2
theorem S0:Wq v c=true->VR v c:=
 V.casesOn (motive:=λv=>Wq v c=true->VR v c) v qS (λZ=>qS)
  (λi=>Value.casesOn (motive:=λc=>Wq (.int i) c=true->VR (.int i) c) c qS qS qS (λZ=>qS) (λj t h=>⟨t,congrArg (Value.int · t) (beq_iff_eq.mp h)⟩) (λZ Z=>qS) (λZ Z=>qS) (λZ Z=>qS) (λZ=>qS) (λZ=>qS) (λZ=>qS))
  (λn=>Value.casesOn (motive:=λc=>Wq (.str n) c=true->VR (.str n) c) c qS qS qS (λZ=>qS) (λZ Z=>qS) (λZ Z=>qS) (λs t h=>⟨t,congrArg (Value.str · t) (beq_iff_eq.mp h)⟩) (λZ Z=>qS) (λZ=>qS) (λZ=>qS) (λZ=>qS)) (λZ=>qS)
theorem S3:Yz o v=true->∃cv,o=some (some cv)/\VR v cv:=
 Option.casesOn (motive:=λo=>Yz o v=true->∃cv,o=some (some cv)/\VR v cv) o qS λo=>Option.casesOn (motive:=λo=>Yz (some o) v=true->∃cv,some o=some (some cv)/\VR v cv) o qS λc h=>⟨c,rfl,S0 h⟩
abbrev gF (K:Frag)(a:Addr)(g:Fn):Bool:=(dFn (B:=MB) (λsc=>dA (ZS 40 sc)) K a g).isSome
abbrev gP (K:Frag)(a:Addr)(g:Fn):Bool:=(dFn (B:=MBP) (λsc=>dA (dPP 40 sc)) K a g).isSome
def S4 (K:Frag)(e:Nm×Fn):Bool:=nsIn K mainGlobals e.1.s==some (some (.ref (Bp e.1)))&&(if nh e.1 then gP K (Bp e.1) e.2 else gF K (Bp e.1) e.2)
def S5 (K:Frag)(e:Nm×Nm×Fn):Bool:=findIn K (.ref (fA e.1)) e.2.1.s==some (some (.ref (GQ e.1 e.2.1)))&&(if lR e.1 e.2.1 then gP K (GQ e.1 e.2.1) e.2.2 else gF K (GQ e.1 e.2.1) e.2.2)
def qE.ZF (K:Frag)(Z:Prop):Prop:=∀(c1:uN.all (QD K)=true)(c2:nsIn K mainGlobals Nm.dz.s=some (some (.ref (fA .dz))))(c3:(Wo.all λe=>kin_not K (fA e.1) (fA e.2))=true) (c4:specialIn K (.builtin "object.__class__") "__get__"=some (some (.builtin "getset_descriptor.__get__"))) (c5:takesIn K (.builtin "object.__class__")=some true) (c6:globT.all (ZV K)=true) (c7:((["len","abs","min","list","sorted","set","bytearray","isinstance","range","enumerate"]:List Str).all λid=>nsIn K mainGlobals id==some none)=true) (c8:MN.all (S4 K)=true) (c9:Eo.all (S5 K)=true) (txt:(MM.all λt=>PyData.strOk (Str.ofString t))=true) (nd:(MM.map Str.ofString).Nodup),Z
def qE (K):=∀Z:Prop,qE.ZF K Z->Z
theorem qE.mk {K}:qE.ZF K (qE K):=λc1 c2 c3 c4 c5 c6 c7 c8 c9 txt nd _ Z=>Z c1 c2 c3 c4 c5 c6 c7 c8 c9 txt nd
def qE.c1 {K}(Z:qE K):=Z _ λc1 c2 c3 c4 c5 c6 c7 c8 c9 txt nd=>c1
def qE.c2 {K}(Z:qE K):=Z _ λc1 c2 c3 c4 c5 c6 c7 c8 c9 txt nd=>c2
def qE.c3 {K}(Z:qE K):=Z _ λc1 c2 c3 c4 c5 c6 c7 c8 c9 txt nd=>c3
def qE.c4 {K}(Z:qE K):=Z _ λc1 c2 c3 c4 c5 c6 c7 c8 c9 txt nd=>c4
def qE.c5 {K}(Z:qE K):=Z _ λc1 c2 c3 c4 c5 c6 c7 c8 c9 txt nd=>c5
def qE.c6 {K}(Z:qE K):=Z _ λc1 c2 c3 c4 c5 c6 c7 c8 c9 txt nd=>c6
def qE.c7 {K}(Z:qE K):=Z _ λc1 c2 c3 c4 c5 c6 c7 c8 c9 txt nd=>c7
def qE.c8 {K}(Z:qE K):=Z _ λc1 c2 c3 c4 c5 c6 c7 c8 c9 txt nd=>c8
def qE.c9 {K}(Z:qE K):=Z _ λc1 c2 c3 c4 c5 c6 c7 c8 c9 txt nd=>c9
def qE.txt {K}(Z:qE K):=Z _ λc1 c2 c3 c4 c5 c6 c7 c8 c9 txt nd=>txt
def qE.nd {K}(Z:qE K):=Z _ λc1 c2 c3 c4 c5 c6 c7 c8 c9 txt nd=>nd
section
variable {K:Frag}
theorem Ob (h:d5 c=true):∃l,(c,l)∈uN:=by
 unfold d5 attrs at h;cases hf:uN.find? λe=>e.1==c with
 |none=>rw [hf] at h;injection h
 |some e=>
  have h1:=List.find?_some hf;have h2:=List.mem_of_find?_eq_some hf;have:e.1=c:=beq_iff_eq.mp h1;exact ⟨e.2,by rw [<- this];exact h2⟩
theorem Bq (h:attrOk c x=true):∃l,(c,l)∈uN/\x∈l:=by
 unfold attrOk attrs at h;cases hf:uN.find? λe=>e.1==c with
 |none=>rw [hf] at h;injection h
 |some e=>
  rw [hf] at h;have h1:=List.find?_some hf;have h2:=List.mem_of_find?_eq_some hf;have:e.1=c:=beq_iff_eq.mp h1;exact ⟨e.2,by rw [<- this];exact h2,List.contains_iff_mem.mp h⟩
def hM.ZF (K:Frag)(c:Nm)(l:List Nm)(Z:Prop):Prop:=∀(pg:plainGet K (fA c) "x"=true)(hd:hasDictIn K (fA c)=true)(eV:∀x,x∈l->findIn K (.ref (fA c)) x.s=some none/\takerIn K (fA c) x.s=some none) (set:findIn K (.ref (fA c)) "__setattr__"=some (some (.builtin "object.__setattr__"))) (over:plainOver K (fA c)=true) (Br:isIn K (.ref (fA c)) (fA c)=true) (Bs:plainGet K (fA c) "__class__"=true) (cls:findIn K (.ref (fA c)) "__class__"=some (some (.builtin "object.__class__"))) (mro:mroIn K (fA c) (.type "object")=some true) (Bt:makesIn K (fA c)=true) (kp:keepIn K (.ref (fA c))=true) (gl:nsIn K mainGlobals c.s=some (some (.ref (fA c)))),Z
def hM (K c l):=∀Z:Prop,hM.ZF K c l Z->Z
theorem hM.mk:hM.ZF K c l (hM K c l):=λpg hd eV set over Br Bs cls mro Bt kp gl _ Z=>Z pg hd eV set over Br Bs cls mro Bt kp gl
def hM.pg (Z:hM K c l):=Z _ λpg hd eV set over Br Bs cls mro Bt kp gl=>pg
def hM.hd (Z:hM K c l):=Z _ λpg hd eV set over Br Bs cls mro Bt kp gl=>hd
def hM.eV (Z:hM K c l):=Z _ λpg hd eV set over Br Bs cls mro Bt kp gl=>eV
def hM.set (Z:hM K c l):=Z _ λpg hd eV set over Br Bs cls mro Bt kp gl=>set
def hM.over (Z:hM K c l):=Z _ λpg hd eV set over Br Bs cls mro Bt kp gl=>over
def hM.Br (Z:hM K c l):=Z _ λpg hd eV set over Br Bs cls mro Bt kp gl=>Br
def hM.Bs (Z:hM K c l):=Z _ λpg hd eV set over Br Bs cls mro Bt kp gl=>Bs
def hM.cls (Z:hM K c l):=Z _ λpg hd eV set over Br Bs cls mro Bt kp gl=>cls
def hM.mro (Z:hM K c l):=Z _ λpg hd eV set over Br Bs cls mro Bt kp gl=>mro
def hM.Bt (Z:hM K c l):=Z _ λpg hd eV set over Br Bs cls mro Bt kp gl=>Bt
def hM.kp (Z:hM K c l):=Z _ λpg hd eV set over Br Bs cls mro Bt kp gl=>kp
def hM.gl (Z:hM K c l):=Z _ λpg hd eV set over Br Bs cls mro Bt kp gl=>gl
theorem a1 (h:(a&&b)=true):a=true:=(Bool.and_eq_true_iff.mp h).1
theorem a2 (h:(a&&b)=true):b=true:=(Bool.and_eq_true_iff.mp h).2
theorem S6 (C:qE K)(h:(c,l)∈uN):hM K c l:=by
 have h:QD K (c,l)=true:=List.all_eq_true.mp C.c1 _ h;have h11:=a1 h;have Wr:=a1 h11;have h9:=a1 Wr;have h8:=a1 h9;have h7:=a1 h8;have h6:=a1 h7;have h5:=a1 h6;have h4:=a1 h5;have h3:=a1 h4;have h2:=a1 h3;exact (.mk (a1 h2) (a2 h2) (λx hx=>have q:=List.all_eq_true.mp (a2 h3) x hx;⟨beq_iff_eq.mp (a1 q),beq_iff_eq.mp (a2 q)⟩) (beq_iff_eq.mp (a2 h4)) (a2 h5) (a2 h6) (a2 h7) (beq_iff_eq.mp (a2 h8)) (beq_iff_eq.mp (a2 h9)) (a2 Wr) (a2 h11) (beq_iff_eq.mp (a2 h)))
theorem EU (h:nX f=some g):(f,g)∈MN:=by
 unfold nX at h;cases hf:MN.find? λe=>e.1==f with
 |none=>rw [hf] at h;injection h
 |some e=>
  replace h:=(hf)▸h;cases h;have h1:=List.find?_some hf;have h2:=List.mem_of_find?_eq_some hf;have:e.1=f:=beq_iff_eq.mp h1;refine this▸?_;exact h2
theorem Bu (h:meths c n=some g):(c,n,g)∈Eo:=by
 unfold meths at h;cases hf:Eo.find? λe=>e.1==c&&e.2.1==n with
 |none=>rw [hf] at h;injection h
 |some e=>
  replace h:=(hf)▸h;cases h;have h1:=List.find?_some hf;have h2:=List.mem_of_find?_eq_some hf;obtain ⟨a,b⟩:=Bool.and_eq_true_iff.mp h1;have a:e.1=c:=beq_iff_eq.mp a;have b:e.2.1=n:=beq_iff_eq.mp b;refine (a)▸(b)▸?_;exact h2
theorem JI (h:uO x=some v):(x,v)∈globT:=by
 unfold uO at h;cases hf:globT.find? λe=>e.1==x with
 |none=>rw [hf] at h;injection h
 |some e=>
  replace h:=(hf)▸h;cases h;have h1:=List.find?_some hf;have h2:=List.mem_of_find?_eq_some hf;have:e.1=x:=beq_iff_eq.mp h1;refine this▸?_;exact h2
theorem JJ (n:Nm):∃h:n.i.val<MM.length,n.txt=MM[n.i.val]:=by
 have h:n.i.val<MM.length:=by
  have:MM.length=168:=by decide+kernel
  simp only [this];exact n.i.isLt
 exact ⟨h,by unfold Nm.txt;rw [List.getElem?_eq_getElem h];rfl⟩
set_option tactic.hygienic true in
theorem Bv (C:qE K){lo:List Str}:Facts (Cx.mk K (Px.mk prog w fA Bp GQ w.params h) v lo mg mb):=by
 have GO:iN (Cx.mk K (Px.mk prog w fA Bp GQ w.params h) v lo mg mb):=(.mk (λx v h=>S3 (List.all_eq_true.mp C.c6 _ (JI h))) (λid h=>beq_iff_eq.mp (List.all_eq_true.mp C.c7 id h)));have cl:∀{c},d5 c=true->∃l,hM K c l:=λh=>by
  obtain ⟨l,hl⟩:=Ob h;exact ⟨l,S6 C hl⟩
 refine (.mk (.mk (λn=>?_)) (.mk (λa b h=>?_) rfl (λc h=>?_) (λc h=>?_) (λc x h=>?_) (λc h=>?_) (λc h=>?_) (λc x h=>?_)) GO
  (.mk (λc h=>?_) (λc h=>?_) (λc c' h h' dw=>?_) (λc h=>?_) (λc h=>?_) C.c4 C.c5 (λc h=>?_))
  (.mk (λf g h hp=>?_) (λf g h hp=>?_) (λc n g h hp=>?_) (λc n g h hp=>?_) (λc h=>?_) (λc h=>?_)) (NS GO))
 ·obtain ⟨fX,e⟩:=JJ n
  unfold Nm.s;refine (e)▸?_;exact List.all_eq_true.mp C.txt _ (List.getElem_mem fX)
 ·obtain ⟨ha,ea⟩:=JJ a
  obtain ⟨hb,eb⟩:=JJ b;unfold Nm.s at h;replace h:=(eb)▸(ea)▸h;have hi:=(List.getElem_inj C.nd (i:=a.i.val) (j:=b.i.val) (h₀:=by rw [List.length_map];exact ha) (h₁:=by rw [List.length_map];exact hb)).mp (by simp only [List.getElem_map,List.getElem_map];exact h);exact match a,b,hi with
  |⟨⟨_,_⟩⟩,⟨⟨_,_⟩⟩,hi=>by subst hi;rfl
 ·obtain ⟨l,F⟩:=cl h;exact F.pg
 ·obtain ⟨l,F⟩:=cl h;exact F.hd
 ·obtain ⟨l,hl,hx⟩:=Bq h;exact ((S6 C hl).eV x hx).1
 ·obtain ⟨l,F⟩:=cl h;exact F.set
 ·obtain ⟨l,F⟩:=cl h;exact F.over
 ·obtain ⟨l,hl,hx⟩:=Bq h;exact ((S6 C hl).eV x hx).2
 ·rcases Bool.or_eq_true_iff.mp h with h|h
  ·obtain ⟨l,F⟩:=cl h;exact F.gl
  ·refine (beq_iff_eq.mp h)▸?_;exact C.c2
 ·obtain ⟨l,F⟩:=cl h;exact F.Br
 ·have key:∀x,x∈Wo->kin_not K (fA x.1) (fA x.2)=true:=λx hx=>List.all_eq_true.mp C.c3 x hx
  refine (?_:kin_not K (fA c) (fA c')=true);simp only [Bool.or_eq_true,beq_iff_eq] at h h';rcases h with (rfl|rfl)|rfl<;>rcases h' with (rfl|rfl)|rfl<;>first|exact absurd rfl dw|exact key (_,_) (by decide+kernel)
 ·obtain ⟨l,F⟩:=cl h;exact F.Bs
 ·obtain ⟨l,F⟩:=cl h;exact F.cls
 ·obtain ⟨l,F⟩:=cl h;exact F.mro
 ·have:=List.all_eq_true.mp C.c8 _ (EU h)
  unfold S4 at this;rw [if_neg (by rw [hp];nofun)] at this;obtain ⟨a,b⟩:=Bool.and_eq_true_iff.mp this;exact ⟨beq_iff_eq.mp a,Pf.out b⟩
 ·have:=List.all_eq_true.mp C.c8 _ (EU h)
  unfold S4 at this;rw [if_pos hp] at this;obtain ⟨a,b⟩:=Bool.and_eq_true_iff.mp this;exact ⟨beq_iff_eq.mp a,Pf.out b⟩
 ·have:=List.all_eq_true.mp C.c9 _ (Bu h)
  unfold S5 at this;rw [if_neg (by rw [hp];nofun)] at this;obtain ⟨a,b⟩:=Bool.and_eq_true_iff.mp this;exact ⟨beq_iff_eq.mp a,Pf.out b⟩
 ·have:=List.all_eq_true.mp C.c9 _ (Bu h)
  unfold S5 at this;rw [if_pos hp] at this;obtain ⟨a,b⟩:=Bool.and_eq_true_iff.mp this;exact ⟨beq_iff_eq.mp a,Pf.out b⟩
 ·obtain ⟨l,F⟩:=cl h;exact F.Bt
 ·obtain ⟨l,F⟩:=cl h;exact F.kp
end
def sR.ZF (s:Shared)(Q:VP)(r:Result)(s':Shared)(Z:Prop):Prop:=∀(v:V)(cv:Value)(H':Hp)(e:r=.ok (.ret cv))(hv:VR v cv)(q:Q v H')(same:cO s s')(keep:s.heap.StaysIn s'.heap),Z
def sR (s Q r s'):=∀Z:Prop,sR.ZF s Q r s' Z->Z
theorem sR.mk:sR.ZF s Q r s' (sR s Q r s'):=λv cv H' e hv q same keep _ Z=>Z v cv H' e hv q same keep
theorem Od (FF:Facts Γ)(X:Γ.K.In s.heap)(T:TopRead Γ.p Γ.loose Γ.mg Γ.mb s.heap)(hb:Γ.X.base=s.heap)(hf:nX f=some g)(hp:nh f=true)(hv:dK vs cvs)
  (R:Rep Γ.X [] H)(h:(aj (j+1)).fn f vs H Q)(hj:j<100):e9 (model Γ.prog Γ.w) callerA (.call (.ref (Γ.X.fa f)) ⟨cvs,[]⟩) (sR s Q) s:=by
 have h':nc (aj j) g vs H Q:=by
  have h2:(match nX f with|some g=>nc (aj j) g vs H Q|none=>False):=h;rw [hf] at h2;exact h2
 refine (xy (k:=2*j+1) FF.KO (A:=callerA) (A₀:=callerA) (outer:=[]) (base:=s.heap) rfl X rfl (by simp only [depth_caller];refine (?_:_<1000);omega) (by show 4+3+4*(2*j+1)+100<9900;omega) (FF.FO.EE _ _ hf hp).2 hv h'.1 R) _ λfo name qual params body scope dV kV doc pm ny ct an binds h1 h2 h3 h4 h5 h6 h7 h8 h9 run=>?_;refine jG (by simp only [depth_caller];decide) h1 h2 h7 h8 rfl h3 (h4 _ _ _ _ ?_);refine wpAny_newFunctionEnv_cells h9 (h5 _) λZN he s' x=>?_;subst he;refine ⟨T.nolimit.keeps x.toInCall.keep,uE (EO ?_)⟩;refine pU x.done λh₁ tk dp Z=>?_;subst dp;have ER:=x.toInCall.keep;have nd:=cellsFrom_names scope.names 0 (s.heap.objs.size+1) [] [] rfl▸h6;refine aQ (Cl.news (h₀:=s.heap) (Nat.le_refl _) λn c hm=>⟨x.cell n c (lookup_of_mem_nodup nd hm),x.above n c hm⟩) λcells NC Y=>?_;refine (run s.heap s.heap.objs.size h₁ tk cells ⟨x.toInCall.ns,ER,Nat.le_refl _⟩ (λp hp=>NC p (by rw [show nw ([]:List Cell)=[] from rfl,List.append_nil] at hp;exact hp)) Y (below_caller s.heap) X T (by rw [hb];exact λb o e=>e) (λp hp=>by contradiction)) _ λG' n6 cs' O' e1 e2 e3 e4 bJ ef e5 kp=>?_;have z:=i8 (Qz FF (vj FF j) (GP FF j) 40) O' e1 e4 h'.2 bJ ef;rw [e2,e3] at z;refine bN z (λfl s' q=>?_) λZ Z q=>q.elim;obtain ⟨z1,fm2,kO,H2,m2,af,z2,z3,z4,z5,z6⟩:=q;have hS:cO s s':=cO.of z1 rfl rfl;have hk:s.heap.StaysIn s'.heap:=λb o e=>z2.F.keep b o (by refine (e5)▸?_;exact e);induction z5 with
 |next=>exact (.mk .none _ H2 rfl rfl z6 hS hk)
 |brk=>exact z6.elim
 |ret hvr=>exact (.mk _ _ H2 rfl hvr z6 hS hk)
end
section
section
set_option genCtorIdx false
inductive Tree where|run|back (t:Tree)|semi (l r:Tree)|pipe (l r:Tree)
inductive rN where|run (t:Tree)|cN (t:Tree)|lead (d o:Int)|close (n:Int)|wait|until (p:Int)|exit (s:Int)
inductive Ch where|none|child (p:Int)|lines
structure Jb where
 ja:Nat
 aI:List rN
 bl:List (Int×Int)
 made:Int
structure Pr where
 aS:Int
 st:Nm
 aJ:Option Nat
 cF:Ch
 status:Int
 fl:Option ON
 dq:Option Jb
structure W where
 next:Int
 fst:Option Nat
 last:Nat
 ps:Nat->Pr
 bP:Nat->Int
 fs:List Nat
 dG:Nat
 eu:Nat
noncomputable def W.aL (w:W)(i:Nat)(P:Pr):W:={w with ps:=λj=>if j=i then P else w.ps j}
inductive oj where
 |tab|je|aj|parts|cg|Bw|b7|bM|file|pipe|other|k (m:Bool)(o:O)
 |proc (i:Nat)|ew (i:Nat)|desc (i:Nat)|slots (i:Nat)|dq (i:Nat)|aI (i:Nat)|bl (i:Nat)
structure Ad where
 tab:Nat
 je:Nat
 aj:Nat
 parts:Nat
 cg:Nat
 b7:Nat
 bM:Nat
 pa:Nat->Nat
abbrev Ow:=Nat->oj
noncomputable def Bx (g:Ad):Option Nat->V
 |.none=>.none
 |.some i=>.ref (g.pa i)
noncomputable def wA:Option Nat->V
 |.none=>.none
 |.some f=>.ref f
def JK (g:Ad)(i:Nat)(P:Pr)(cv nm:V)(tn:Int)(rg:Nat)(fv jv:V):NV:=[(.dO,.int i),(.cY,.int P.aS),(.dP,.str P.st),(.cP,Bx g P.aJ),(.jT,.none),(.ft,.ref rg),
 (.CV,.int 0),(.bX,fv),(.rh,.none),(.mz,nm),(.ck,cv),(.lN,.bool false),(.bx,.int P.status),(.lM,.none),
 (.iX,.int 0),(.kg,.none),(.rt,.none),(.gL,jv),(.oW,.int tn)]
def Oe (g:Ad)(nx last:Int)(f:Option Nat)(run:V):NV:=[(.fe,.ref g.je),(.gc,.int nx),(.so,.int last),(.aV,Bx g f),(.aF,run)]
def zc (g:Ad)(i:Nat)(made:Int)(k t:Nat)(sh:V):NV:=[(.bW,.ref g.aj),(.ab,.ref (g.pa i)),(.eN,.ref k),(.gd,.ref t),(.mx,sh),(.eT,.int made)]
def kX (rd wr:Bool)(h:Int)(p:Nat):NV:=[(.fc,.str .b5),(.eh,.bool rd),(.iY,.bool wr),(.fQ,.int h),(.dO,.int 0),(.b5,.ref p),(.CU,.none),(.yy,.int 0)]
def rO (id:Int)(rv:V)(x y:Bool):NV:=[(.kR,.int id),(.et,.int 4),(.CX,rv),(.mB,.int 0),(.lx,.int 0),(.hZ,.bool x),(.gu,.bool y)]
def lZ (g:Ad)(dv:V)(o:Nat):NV:=[(.dW,.int 30),(.dh,.ref g.b7),(.gU,.none),(.eJ,.none),(.d9,dv),(.oU,.int 16),(.qq,.ref o)]
noncomputable def oj.ctorIdx (l:oj):Nat:=oj.casesOn l 0 1 2 3 4 5 6 7 8 9 10 (λZ Z=>11) (λZ=>12) (λZ=>13) (λZ=>14) (λZ=>15) (λZ=>16) (λZ=>17) (λZ=>18)
noncomputable def Ch.ctorIdx (l:Ch):Nat:=Ch.casesOn l 0 (λZ=>1) 2
noncomputable def rN.ctorIdx (l:rN):Nat:=rN.casesOn l (λZ=>0) (λZ=>1) (λZ Z=>2) (λZ=>3) 4 (λZ=>5) (λZ=>6)
theorem ay {a b:oj}{P:Prop}(h:Nat.beq a.ctorIdx b.ctorIdx=false)(e:a=b):P:=Qo (e▸h)
theorem S7 {a b:Ch}{P:Prop}(h:Nat.beq a.ctorIdx b.ctorIdx=false)(e:a=b):P:=Qo (e▸h)
def bQ.ZF (ow:Ow)(v:V)(o:O)(Z:Prop):Prop:=∀(a:Nat)(e:v=.ref a)(h:ow a=.k false o),Z
def bQ (ow v o):=∀Z:Prop,bQ.ZF ow v o Z->Z
theorem bQ.mk:bQ.ZF ow v o (bQ ow v o):=λa e h _ Z=>Z a e h
def xH.ZF (ow:Ow)(v:V)(Z:Prop):Prop:=∀(b:V)(h1:bQ ow v (.inst .fT [(.eM,b)]))(h2:bQ ow b (.list [])),Z
def xH (ow v):=∀Z:Prop,xH.ZF ow v Z->Z
theorem xH.mk:xH.ZF ow v (xH ow v):=λb h1 h2 _ Z=>Z b h1 h2
def xI.ZF (ow:Ow)(v:V)(T:V->Prop)(Z:Prop):Prop:=∀(c:V)(h1:bQ ow v (.inst .eE [(.iV,c)]))(h2:T c),Z
def xI (ow v T):=∀Z:Prop,xI.ZF ow v T Z->Z
theorem xI.mk:xI.ZF ow v T (xI ow v T):=λc h1 h2 _ Z=>Z c h1 h2
def vr.ZF (ow:Ow)(v:V)(n:Nm)(L R:V->Prop)(Z:Prop):Prop:=∀(x:V)(y:V)(h1:bQ ow v (.inst .fY [(.nR,.str n),(.eG,x),(.jS,y)]))(h2:L x)(h3:R y),Z
def vr (ow v n L R):=∀Z:Prop,vr.ZF ow v n L R Z->Z
theorem vr.mk:vr.ZF ow v n L R (vr ow v n L R):=λx y h1 h2 h3 _ Z=>Z x y h1 h2 h3
def fB (ow:Ow):V->Tree->Prop
 |v,.run=>xH ow v
 |v,.back t=>xI ow v λc=>fB ow c t
 |v,.semi l r=>vr ow v .CS (λx=>fB ow x l) λy=>fB ow y r
 |v,.pipe l r=>vr ow v .Qi (λx=>fB ow x l) λy=>fB ow y r
def mN.ZF (ow:Ow)(v:V)(n:Nm)(t:Tree)(Z:Prop):Prop:=∀(tv:V)(h1:bQ ow v (.tuple [.str n,tv]))(h2:fB ow tv t),Z
def mN (ow v n t):=∀Z:Prop,mN.ZF ow v n t Z->Z
theorem mN.mk:mN.ZF ow v n t (mN ow v n t):=λtv h1 h2 _ Z=>Z tv h1 h2
def i9 (ow:Ow)(v:V):rN->Prop
 |.run t=>mN ow v .kT t
 |.cN t=>mN ow v .ix t
 |.lead d o=>bQ ow v (.tuple [.str .my,.int d,.int o])
 |.close n=>bQ ow v (.tuple [.str .dt,.int n])
 |.wait=>bQ ow v (.tuple [.str .fw])
 |.until p=>bQ ow v (.tuple [.str .yB,.int p])
 |.exit s=>bQ ow v (.tuple [.str .iw,.int s])
def om (ow:Ow)(v:V):Ch->Prop
 |.none=>v=.none
 |.child p=>bQ ow v (.tuple [.str .aZ,.int p])
 |.lines=>bQ ow v (.tuple [.str .rn])
def Ext (ow az:Ow):Prop:=∀a m o,ow a=.k m o->az a=.k m o
def qF (ow az:Ow):Prop:=∀a o,ow a=.k false o->az a=.k false o
theorem Ext.rfl':Ext ow ow:=λZ Z Z h=>h
theorem qF.rfl':qF ow ow:=λZ Z h=>h
theorem Ext.trans (x:Ext a b)(y:Ext b c):Ext a c:=λp m o h=>y p m o (x p m o h)
theorem qF.trans (x:qF a b)(y:qF b c):qF a c:=λp o h=>y p o (x p o h)
theorem Ext.i (x:Ext a b):qF a b:=λp o h=>x p false o h
theorem bQ.ext (E:qF ow az)(t:bQ ow v o):bQ az v o:=by
 refine t _ λb e h1=>?_;exact (.mk b e (E _ _ h1))
theorem fB.ext (E:qF ow az):∀{v:V},fB ow v t->fB az v t:=by
 induction t with
 |run=>exact λq=>q _ λb h1 h2=>(.mk b (h1.ext E) (h2.ext E))
 |back t i1=>exact λq=>q _ λc h1 h2=>(.mk c (h1.ext E) (i1 h2))
 |semi t u i1 i2=>exact λq=>q _ λx y h1 h2 h3=>(.mk x y (h1.ext E) (i1 h2) (i2 h3))
 |pipe t u i1 i2=>exact λq=>q _ λx y h1 h2 h3=>(.mk x y (h1.ext E) (i1 h2) (i2 h3))
theorem i9.ext (E:qF ow az):i9 ow v s->i9 az v s:=by
 induction s with
 |run=>exact λq=>q _ λt x y=>(.mk t (x.ext E) (y.ext E))
 |cN=>exact λq=>q _ λt x y=>(.mk t (x.ext E) (y.ext E))
 |lead=>exact λx=>bQ.ext E x
 |close=>exact λx=>bQ.ext E x
 |wait=>exact λx=>bQ.ext E x
 |«until»=>exact λx=>bQ.ext E x
 |exit=>exact λx=>bQ.ext E x
theorem om.ext (E:qF ow az):∀{c:Ch},om ow v c->om az v c
 |.none,x=>x
 |.child _,x=>bQ.ext E x
 |.lines,x=>bQ.ext E x
def xJ.ZF (H:Hp)(rg:Nat)(Z:Prop):Prop:=∀(xs:List V)(h1:H rg=some (.list xs))(h2:xs.length=32),Z
def xJ (H rg):=∀Z:Prop,xJ.ZF H rg Z->Z
theorem xJ.mk:xJ.ZF H rg (xJ H rg):=λxs h1 h2 _ Z=>Z xs h1 h2
def fg.ZF (ow:Ow)(H:Hp)(i rg:Nat)(Z:Prop):Prop:=∀(o:ow rg=.ew i)(h:xJ H rg),Z
def fg (ow H i rg):=∀Z:Prop,fg.ZF ow H i rg Z->Z
theorem fg.mk:fg.ZF ow H i rg (fg ow H i rg):=λo h _ Z=>Z o h
def fg.o (Z:fg ow H i rg):=Z _ λo h=>o
def fg.h (Z:fg ow H i rg):=Z _ λo h=>h
def cc.ZF (ow:Ow)(H:Hp)(i d s:Nat)(sl:ON)(Z:Prop):Prop:=∀(od:ow d=.desc i)(hd:H d=some (.inst .aH [(.dW,.int 6),(.gV,.ref s)]))(os:ow s=.slots i)(hs:H s=some (.list (sl.map wA)))(len:sl.length=6),Z
def cc (ow H i d s sl):=∀Z:Prop,cc.ZF ow H i d s sl Z->Z
theorem cc.mk:cc.ZF ow H i d s sl (cc ow H i d s sl):=λod hd os hs len _ Z=>Z od hd os hs len
def cc.od (Z:cc ow H i d s sl):=Z _ λod hd os hs len=>od
def cc.hd (Z:cc ow H i d s sl):=Z _ λod hd os hs len=>hd
def cc.os (Z:cc ow H i d s sl):=Z _ λod hd os hs len=>os
def cc.hs (Z:cc ow H i d s sl):=Z _ λod hd os hs len=>hs
def cc.len (Z:cc ow H i d s sl):=Z _ λod hd os hs len=>len
def sS.ZF (ow:Ow)(H:Hp)(i:Nat)(v:V)(sl:ON)(Z:Prop):Prop:=∀(d:Nat)(s:Nat)(e:v=.ref d)(h:cc ow H i d s sl),Z
def sS (ow H i v sl):=∀Z:Prop,sS.ZF ow H i v sl Z->Z
theorem sS.mk:sS.ZF ow H i v sl (sS ow H i v sl):=λd s e h _ Z=>Z d s e h
def pv (ow:Ow)(H:Hp)(i:Nat)(v:V):Option ON->Prop
 |.none=>v=.none
 |.some sl=>sS ow H i v sl
def sT.ZF (ow:Ow)(H:Hp)(k:Nat)(aI:List rN)(Z:Prop):Prop:=∀(vs:List V)(h1:H k=some (.list vs))(h2:bZ (i9 ow) vs.reverse aI)(h3:vs.length<500),Z
def sT (ow H k aI):=∀Z:Prop,sT.ZF ow H k aI Z->Z
theorem sT.mk:sT.ZF ow H k aI (sT ow H k aI):=λvs h1 h2 h3 _ Z=>Z vs h1 h2 h3
def eP.ZF (ow:Ow)(H:Hp)(i k:Nat)(aI:List rN)(Z:Prop):Prop:=∀(o:ow k=.aI i)(h:sT ow H k aI),Z
def eP (ow H i k aI):=∀Z:Prop,eP.ZF ow H i k aI Z->Z
theorem eP.mk:eP.ZF ow H i k aI (eP ow H i k aI):=λo h _ Z=>Z o h
def eP.o (Z:eP ow H i k aI):=Z _ λo h=>o
def eP.h (Z:eP ow H i k aI):=Z _ λo h=>h
def sU.ZF (ow:Ow)(H:Hp)(k:Nat)(bl:List (Int×Int))(Z:Prop):Prop:=∀(vs:List V)(h1:H k=some (.list vs))(h2:bZ (λv (x:Int×Int)=>bQ ow v (.tuple [.int x.1,.int x.2])) vs bl) (h3:vs.length<500),Z
def sU (ow H k bl):=∀Z:Prop,sU.ZF ow H k bl Z->Z
theorem sU.mk:sU.ZF ow H k bl (sU ow H k bl):=λvs h1 h2 h3 _ Z=>Z vs h1 h2 h3
def fC.ZF (ow:Ow)(H:Hp)(i k:Nat)(bl:List (Int×Int))(Z:Prop):Prop:=∀(o:ow k=.bl i)(h:sU ow H k bl),Z
def fC (ow H i k bl):=∀Z:Prop,fC.ZF ow H i k bl Z->Z
theorem fC.mk:fC.ZF ow H i k bl (fC ow H i k bl):=λo h _ Z=>Z o h
def fC.o (Z:fC ow H i k bl):=Z _ λo h=>o
def fC.h (Z:fC ow H i k bl):=Z _ λo h=>h
def GR.ZF (g:Ad)(H:Hp)(i k t:Nat)(j:Jb)(Z:Prop):Prop:=∀(sh:V)(h:H j.ja=some (.inst .cV (zc g i j.made k t sh))),Z
def GR (g H i k t j):=∀Z:Prop,GR.ZF g H i k t j Z->Z
theorem GR.mk:GR.ZF g H i k t j (GR g H i k t j):=λsh h _ Z=>Z sh h
def gi.ZF (g:Ad)(ow:Ow)(H:Hp)(i k t:Nat)(j:Jb)(Z:Prop):Prop:=∀(o:ow j.ja=.dq i)(h:GR g H i k t j)(aI:eP ow H i k j.aI)(bl:fC ow H i t j.bl),Z
def gi (g ow H i k t j):=∀Z:Prop,gi.ZF g ow H i k t j Z->Z
theorem gi.mk:gi.ZF g ow H i k t j (gi g ow H i k t j):=λo h aI bl _ Z=>Z o h aI bl
def gi.o (Z:gi g ow H i k t j):=Z _ λo h aI bl=>o
def gi.h (Z:gi g ow H i k t j):=Z _ λo h aI bl=>h
def gi.aI (Z:gi g ow H i k t j):=Z _ λo h aI bl=>aI
def gi.bl (Z:gi g ow H i k t j):=Z _ λo h aI bl=>bl
def GS.ZF (g:Ad)(ow:Ow)(H:Hp)(i:Nat)(v:V)(j:Jb)(Z:Prop):Prop:=∀(e:v=.ref j.ja)(k:Nat)(t:Nat)(h:gi g ow H i k t j),Z
def GS (g ow H i v j):=∀Z:Prop,GS.ZF g ow H i v j Z->Z
theorem GS.mk:GS.ZF g ow H i v j (GS g ow H i v j):=λe k t h _ Z=>Z e k t h
def xK (g:Ad)(ow:Ow)(H:Hp)(i:Nat)(v:V):Option Jb->Prop
 |.none=>v=.none
 |.some j=>GS g ow H i v j
def xM.ZF (H:Hp)(p:Nat)(Z:Prop):Prop:=∀(id:Int)(rv:V)(x:Bool)(y:Bool)(h:H p=some (.inst .eF (rO id rv x y))),Z
def xM (H p):=∀Z:Prop,xM.ZF H p Z->Z
theorem xM.mk:xM.ZF H p (xM H p):=λid rv x y h _ Z=>Z id rv x y h
def b9.ZF (ow:Ow)(H:Hp)(p:Nat)(Z:Prop):Prop:=∀(o:ow p=.pipe)(h:xM H p),Z
def b9 (ow H p):=∀Z:Prop,b9.ZF ow H p Z->Z
theorem b9.mk:b9.ZF ow H p (b9 ow H p):=λo h _ Z=>Z o h
def b9.o (Z:b9 ow H p):=Z _ λo h=>o
def b9.h (Z:b9 ow H p):=Z _ λo h=>h
def uf.ZF (P:Pr)(Z:Prop):Prop:=∀(aJ:∀q,P.aJ=some q->q<24) (cF:P.st=.aU->P.cF≠.none),Z
def uf (P):=∀Z:Prop,uf.ZF P Z->Z
theorem uf.mk:uf.ZF P (uf P):=λaJ cF _ Z=>Z aJ cF
def uf.aJ (Z:uf P):=Z _ λaJ cF=>aJ
def uf.cF (Z:uf P):=Z _ λaJ cF=>cF
def cQ.ZF (g:Ad)(ow:Ow)(H:Hp)(i:Nat)(P:Pr)(cv nm:V)(tn:Int)(rg:Nat)(fv jv:V)(Z:Prop):Prop:=∀(h:H (g.pa i)=some (.inst .bw (JK g i P cv nm tn rg fv jv)))(ok:uf P)(cF:om ow cv P.cF)(ew:fg ow H i rg)(fl:pv ow H i fv P.fl)(dq:xK g ow H i jv P.dq),Z
def cQ (g ow H i P cv nm tn rg fv jv):=∀Z:Prop,cQ.ZF g ow H i P cv nm tn rg fv jv Z->Z
theorem cQ.mk:cQ.ZF g ow H i P cv nm tn rg fv jv (cQ g ow H i P cv nm tn rg fv jv):=λh ok cF ew fl dq _ Z=>Z h ok cF ew fl dq
def cQ.h (Z:cQ g ow H i P cv nm tn rg fv jv):=Z _ λh ok cF ew fl dq=>h
def cQ.ok (Z:cQ g ow H i P cv nm tn rg fv jv):=Z _ λh ok cF ew fl dq=>ok
def cQ.cF (Z:cQ g ow H i P cv nm tn rg fv jv):=Z _ λh ok cF ew fl dq=>cF
def cQ.ew (Z:cQ g ow H i P cv nm tn rg fv jv):=Z _ λh ok cF ew fl dq=>ew
def cQ.fl (Z:cQ g ow H i P cv nm tn rg fv jv):=Z _ λh ok cF ew fl dq=>fl
def cQ.dq (Z:cQ g ow H i P cv nm tn rg fv jv):=Z _ λh ok cF ew fl dq=>dq
def vt.ZF (g:Ad)(ow:Ow)(H:Hp)(i:Nat)(P:Pr)(Z:Prop):Prop:=∀(cv:V)(nm:V)(tn:Int)(rg:Nat)(fv:V)(jv:V)(A:cQ g ow H i P cv nm tn rg fv jv),Z
def vt (g ow H i P):=∀Z:Prop,vt.ZF g ow H i P Z->Z
theorem vt.mk:vt.ZF g ow H i P (vt g ow H i P):=λcv nm tn rg fv jv A _ Z=>Z cv nm tn rg fv jv A
def iF.ZF (g:Ad)(ow:Ow)(H:Hp)(i:Nat)(P:Pr)(Z:Prop):Prop:=∀(o:ow (g.pa i)=.proc i)(h:vt g ow H i P),Z
def iF (g ow H i P):=∀Z:Prop,iF.ZF g ow H i P Z->Z
theorem iF.mk:iF.ZF g ow H i P (iF g ow H i P):=λo h _ Z=>Z o h
def iF.o (Z:iF g ow H i P):=Z _ λo h=>o
def iF.h (Z:iF g ow H i P):=Z _ λo h=>h
def TabAt.ZF (g:Ad)(H:Hp)(nx:Int)(f:Option Nat)(l:Nat)(o:Option Nat)(Z:Prop):Prop:=∀(h:H g.tab=some (.inst .aK (Oe g nx l f (Bx g o))))(last:l<24)(f:∀q,f=some q->q<24) (run:∀q,o=some q->q<24),Z
def TabAt (g H nx f l o):=∀Z:Prop,TabAt.ZF g H nx f l o Z->Z
theorem TabAt.mk:TabAt.ZF g H nx f l o (TabAt g H nx f l o):=λh last f run _ Z=>Z h last f run
def TabAt.h (Z:TabAt g H nx f l o):=Z _ λh last f run=>h
def TabAt.last (Z:TabAt g H nx f l o):=Z _ λh last f run=>last
def TabAt.f {f}(Z:TabAt g H nx f l o):=Z _ λh last f run=>f
def TabAt.run {f}(Z:TabAt g H nx f l o):=Z _ λh last f run=>run
def GU.ZF (g:Ad)(H:Hp)(nx:Int)(f:Option Nat)(l:Nat)(Z:Prop):Prop:=∀(o:Option Nat)(h:TabAt g H nx f l o),Z
def GU (g H nx f l):=∀Z:Prop,GU.ZF g H nx f l Z->Z
theorem GU.mk:GU.ZF g H nx f l (GU g H nx f l):=λo h _ Z=>Z o h
def kY.ZF (g:Ad)(ow:Ow)(H:Hp)(nx:Int)(f:Option Nat)(l:Nat)(Z:Prop):Prop:=∀(o:ow g.tab=.tab)(h:GU g H nx f l),Z
def kY (g ow H nx f l):=∀Z:Prop,kY.ZF g ow H nx f l Z->Z
theorem kY.mk:kY.ZF g ow H nx f l (kY g ow H nx f l):=λo h _ Z=>Z o h
def kY.o (Z:kY g ow H nx f l):=Z _ λo h=>o
def kY.h (Z:kY g ow H nx f l):=Z _ λo h=>h
def xN.ZF (g:Ad)(ow:Ow)(H:Hp)(dG:Nat)(fs:List Nat)(Z:Prop):Prop:=∀(dv:V)(o:Nat)(vs:List V)(h1:H g.cg=some (.inst .aP (lZ g dv o)))(h2:ow o=.Bw)(h3:H o=some (.list vs))(h4:vs.length<=dG)(h5:∀v∈vs,∃f∈fs,v=.ref f),Z
def xN (g ow H dG fs):=∀Z:Prop,xN.ZF g ow H dG fs Z->Z
theorem xN.mk:xN.ZF g ow H dG fs (xN g ow H dG fs):=λdv o vs h1 h2 h3 h4 h5 _ Z=>Z dv o vs h1 h2 h3 h4 h5
def iG.ZF (g:Ad)(ow:Ow)(H:Hp)(dG:Nat)(fs:List Nat)(Z:Prop):Prop:=∀(o:ow g.cg=.cg)(h:xN g ow H dG fs),Z
def iG (g ow H dG fs):=∀Z:Prop,iG.ZF g ow H dG fs Z->Z
theorem iG.mk:iG.ZF g ow H dG fs (iG g ow H dG fs):=λo h _ Z=>Z o h
def iG.o (Z:iG g ow H dG fs):=Z _ λo h=>o
def iG.h (Z:iG g ow H dG fs):=Z _ λo h=>h
def sV.ZF (g:Ad)(ow:Ow)(H:Hp)(n:Nat)(Z:Prop):Prop:=∀(es:List (Int×V))(h1:H g.bM=some (.dict es))(h2:es.length<=n)(h3:∀e∈es,∃p,e.2=V.ref p/\b9 ow H p),Z
def sV (g ow H n):=∀Z:Prop,sV.ZF g ow H n Z->Z
theorem sV.mk:sV.ZF g ow H n (sV g ow H n):=λes h1 h2 h3 _ Z=>Z es h1 h2 h3
def e6.ZF (g:Ad)(ow:Ow)(H:Hp)(n:Nat)(Z:Prop):Prop:=∀(o:ow g.bM=.bM)(h:sV g ow H n),Z
def e6 (g ow H n):=∀Z:Prop,e6.ZF g ow H n Z->Z
theorem e6.mk:e6.ZF g ow H n (e6 g ow H n):=λo h _ Z=>Z o h
def e6.o (Z:e6 g ow H n):=Z _ λo h=>o
def e6.h (Z:e6 g ow H n):=Z _ λo h=>h
def xO.ZF (ow:Ow)(H:Hp)(h:Int)(f:Nat)(Z:Prop):Prop:=∀(rd:Bool)(wr:Bool)(p:Nat)(h1:H f=some (.inst .bV (kX rd wr h p)))(h2:b9 ow H p),Z
def xO (ow H h f):=∀Z:Prop,xO.ZF ow H h f Z->Z
theorem xO.mk:xO.ZF ow H h f (xO ow H h f):=λrd wr p h1 h2 _ Z=>Z rd wr p h1 h2
def fD.ZF (ow:Ow)(H:Hp)(h:Int)(f:Nat)(Z:Prop):Prop:=∀(o:ow f=.file)(h:xO ow H h f),Z
def fD (ow H h f):=∀Z:Prop,fD.ZF ow H h f Z->Z
theorem fD.mk:fD.ZF ow H h f (fD ow H h f):=λo h _ Z=>Z o h
def fD.o (Z:fD ow H h f):=Z _ λo h=>o
def fD.h {h}(Z:fD ow H h f):=Z _ λo h=>h
def Rel.ZF (g:Ad)(ow:Ow)(w:W)(H:Hp)(Z:Prop):Prop:=∀(aM:∀a m o,ow a=.k m o->H a=some o) (tab:kY g ow H w.next w.fst w.last) (je:ow g.je=.je/\H g.je=some (.list ((List.range 24).map λi=>.ref (g.pa i)))) (proc:∀i,i<24->iF g ow H i (w.ps i)) (aj:ow g.aj=.aj/\H g.aj=some (.inst .au [(.cL,.ref g.parts)])) (parts:ow g.parts=.parts/\∃dv,H g.parts=some (.inst .jf [(.aW,.ref g.tab),(.bX,.ref g.cg),(.gU,.none),(.mA,.none),(.eJ,.none),(.d9,dv),(.um,.int 0)])) (cg:iG g ow H w.dG w.fs) (b7:ow g.b7=.b7/\H g.b7=some (.inst .bj [(.et,.int 4),(.eT,.int w.eu),(.dh,.ref g.bM)])) (bM:e6 g ow H w.eu) (file:∀f∈w.fs,fD ow H (w.bP f) f),Z
def Rel (g ow w H):=∀Z:Prop,Rel.ZF g ow w H Z->Z
theorem Rel.mk:Rel.ZF g ow w H (Rel g ow w H):=λaM tab je proc aj parts cg b7 bM file _ Z=>Z aM tab je proc aj parts cg b7 bM file
def Rel.aM (Z:Rel g ow w H):=Z _ λaM tab je proc aj parts cg b7 bM file=>aM
def Rel.tab (Z:Rel g ow w H):=Z _ λaM tab je proc aj parts cg b7 bM file=>tab
def Rel.je (Z:Rel g ow w H):=Z _ λaM tab je proc aj parts cg b7 bM file=>je
def Rel.proc (Z:Rel g ow w H):=Z _ λaM tab je proc aj parts cg b7 bM file=>proc
def Rel.aj (Z:Rel g ow w H):=Z _ λaM tab je proc aj parts cg b7 bM file=>aj
def Rel.parts (Z:Rel g ow w H):=Z _ λaM tab je proc aj parts cg b7 bM file=>parts
def Rel.cg (Z:Rel g ow w H):=Z _ λaM tab je proc aj parts cg b7 bM file=>cg
def Rel.b7 (Z:Rel g ow w H):=Z _ λaM tab je proc aj parts cg b7 bM file=>b7
def Rel.bM (Z:Rel g ow w H):=Z _ λaM tab je proc aj parts cg b7 bM file=>bM
def Rel.file (Z:Rel g ow w H):=Z _ λaM tab je proc aj parts cg b7 bM file=>file
def hU.ZF (ow:Ow)(H:Hp)(az:Ow)(H':Hp)(a:Nat)(Z:Prop):Prop:=∀(cell:∀b o,H b=some o->b≠a->az b=ow b/\H' b=some o) (ext:qF ow az),Z
def hU (ow H az H' a):=∀Z:Prop,hU.ZF ow H az H' a Z->Z
theorem hU.mk:hU.ZF ow H az H' a (hU ow H az H' a):=λcell ext _ Z=>Z cell ext
def hU.cell (Z:hU ow H az H' a):=Z _ λcell ext=>cell
def hU.ext (Z:hU ow H az H' a):=Z _ λcell ext=>ext
def Off (ow:Ow)(H:Hp)(a:Nat)(l:oj):Prop:=∀b o,H b=some o->ow b=l->b≠a
theorem Off.fresh (h:H a=none)(l:oj):Off ow H a l:=λb o hb Z e=>by rw [e,h] at hb;injection hb
theorem Off.w4 (h:ow a=l')(dw:l'≠l):Off ow H a l:=λb o Z hl e=>dw (by rw [<- h,<- e,hl])
noncomputable def Ow.set (ow:Ow)(a:Nat)(l:oj):Ow:=λb=>if b=a then l else ow b
theorem hU.upd (H:Hp)(o:O):hU ow H ow (H.upd a o) a:=
 (.mk (λb ob hb dw=>⟨rfl,by unfold Hp.upd;rw [if_neg dw];exact hb⟩) .rfl')
theorem ak (H:Hp)(a:Nat)(o:O):(H.upd a o) a=some o:=if_pos rfl
theorem aY {H:Hp}(h:b≠a)(o:O):(H.upd a o) b=H b:=if_neg h
theorem aC (ow:Ow)(a:Nat)(l:oj):(ow.set a l) a=l:=if_pos rfl
theorem bC {ow:Ow}(h:b≠a)(l:oj):(ow.set a l) b=ow b:=if_neg h
theorem jU (H:Hp)(a:Nat)(o o':O):(H.upd a o).upd a o'=H.upd a o':=by
 funext b;unfold Hp.upd;split<;>rfl
section
theorem hU.at (S:hU ow H az H' a)(h:Off ow H a l)(hl:ow b=l)(hb:H b=some o):az b=l/\H' b=some o:=by
 refine cX (S.cell b o hb (h b o hb hl)) λx y=>?_;exact ⟨x.trans hl,y⟩
theorem fg.sim (S:hU ow H az H' a)(h:Off ow H a (.ew i))(x:fg ow H i rg):fg az H' i rg:=by
 refine x _ λh1 q13=>?_;refine q13 _ λxs h2 h3=>?_;exact (.mk ((S.at h h1 h2).1) (.mk xs ((S.at h h1 h2).2) h3))
theorem cc.sim (S:hU ow H az H' a)(hd:Off ow H a (.desc i))(hs:Off ow H a (.slots i))(x:cc ow H i d s l):cc az H' i d s l:=
 (.mk ((S.at hd x.od x.hd).1) ((S.at hd x.od x.hd).2) ((S.at hs x.os x.hs).1) ((S.at hs x.os x.hs).2) x.len)
theorem pv.sim (S:hU ow H az H' a)(hd:Off ow H a (.desc i))(hs:Off ow H a (.slots i)):∀{f:Option ON},pv ow H i v f->pv az H' i v f
 |.none,x=>x
 |.some _,ZW=>ZW _ λd s e x=>(.mk d s e (x.sim S hd hs))
theorem eP.sim (S:hU ow H az H' a)(hk:Off ow H a (.aI i))(x:eP ow H i k l):eP az H' i k l:=by
 refine x _ λh1 q14=>?_;refine q14 _ λvs h2 h3 h4=>?_;exact (.mk ((S.at hk h1 h2).1) (.mk vs ((S.at hk h1 h2).2) (h3.imp λZ Z z=>z.ext S.ext) h4))
theorem fC.sim (S:hU ow H az H' a)(hk:Off ow H a (.bl i))(x:fC ow H i k l):fC az H' i k l:=by
 refine x _ λh1 q15=>?_;refine q15 _ λvs h2 h3 h4=>?_;exact (.mk ((S.at hk h1 h2).1) (.mk vs ((S.at hk h1 h2).2) (h3.imp λZ Z z=>z.ext S.ext) h4))
theorem gi.sim (S:hU ow H az H' a)(hj:Off ow H a (.dq i))(hk:Off ow H a (.aI i))(ht:Off ow H a (.bl i))(x:gi g ow H i k t j):gi g az H' i k t j:=by
 refine x _ λh1 q16 h3 h4=>?_;refine q16 _ λsh h2=>?_;exact (.mk ((S.at hj h1 h2).1) (.mk sh ((S.at hj h1 h2).2)) (h3.sim S hk) (h4.sim S ht))
theorem xK.sim (S:hU ow H az H' a)(hj:Off ow H a (.dq i))(hk:Off ow H a (.aI i))(ht:Off ow H a (.bl i)):∀{j:Option Jb},xK g ow H i v j->xK g az H' i v j
 |.none,x=>x
 |.some _,ZX=>ZX _ λe k t h=>(.mk e k t (h.sim S hj hk ht))
theorem b9.sim (S:hU ow H az H' a)(h:Off ow H a .pipe)(x:b9 ow H p):b9 az H' p:=by
 refine x _ λh1 q17=>?_;refine q17 _ λi r c d h2=>?_;exact (.mk ((S.at h h1 h2).1) (.mk i r c d ((S.at h h1 h2).2)))
def mO.ZF (ow:Ow)(H:Hp)(a i:Nat)(Z:Prop):Prop:=∀(r:Off ow H a (.ew i))(d:Off ow H a (.desc i))(s:Off ow H a (.slots i))(j:Off ow H a (.dq i))(k:Off ow H a (.aI i))(t:Off ow H a (.bl i)),Z
def mO (ow H a i):=∀Z:Prop,mO.ZF ow H a i Z->Z
theorem mO.mk:mO.ZF ow H a i (mO ow H a i):=λr d s j k t _ Z=>Z r d s j k t
def mO.r (Z:mO ow H a i):=Z _ λr d s j k t=>r
def mO.d (Z:mO ow H a i):=Z _ λr d s j k t=>d
def mO.s (Z:mO ow H a i):=Z _ λr d s j k t=>s
def mO.j (Z:mO ow H a i):=Z _ λr d s j k t=>j
def mO.k (Z:mO ow H a i):=Z _ λr d s j k t=>k
def mO.t (Z:mO ow H a i):=Z _ λr d s j k t=>t
theorem cQ.sim (S:hU ow H az H' a)(hp:H' (g.pa i)=H (g.pa i))(ho:mO ow H a i)(x:cQ g ow H i P cv nm tn rg fv jv):cQ g az H' i P cv nm tn rg fv jv:=
 (.mk (hp.trans x.h) x.ok (x.cF.ext S.ext) (x.ew.sim S ho.r) (x.fl.sim S ho.d ho.s) (x.dq.sim S ho.j ho.k ho.t))
theorem iF.sim (S:hU ow H az H' a)(hp:Off ow H a (.proc i))(ho:mO ow H a i)(x:iF g ow H i P):iF g az H' i P:=by
 refine x _ λh1 q18=>?_;refine q18 _ λcv nm tn rg fv jv h=>?_;exact (.mk ((S.at hp h1 h.h).1) (.mk cv nm tn rg fv jv (h.sim S ((S.at hp h1 h.h).2.trans h.h.symm) ho)))
theorem kY.sim (S:hU ow H az H' a)(h:Off ow H a .tab)(x:kY g ow H n f l):kY g az H' n f l:=by
 refine x _ λh1 q19=>?_;refine q19 _ λr ZY=>?_;refine ZY _ λh2 h3 h4 h5=>?_;exact (.mk ((S.at h h1 h2).1) (.mk r (.mk ((S.at h h1 h2).2) h3 h4 h5)))
theorem iG.sim (S:hU ow H az H' a)(h:Off ow H a .cg)(ho:Off ow H a .Bw)(x:iG g ow H dG fs):iG g az H' dG fs:=by
 refine x _ λh1 q20=>?_;refine q20 _ λdv o vs h2 h3 h4 h5 h6=>?_;exact (.mk ((S.at h h1 h2).1) (.mk dv o vs ((S.at h h1 h2).2) ((S.at ho h3 h4).1) ((S.at ho h3 h4).2) h5 h6))
theorem e6.sim (S:hU ow H az H' a)(h:Off ow H a .bM)(hp:Off ow H a .pipe)(x:e6 g ow H n):e6 g az H' n:=by
 refine x _ λh1 q21=>?_;refine q21 _ λes h2 h3 h4=>?_;refine (.mk ((S.at h h1 h2).1) (.mk es ((S.at h h1 h2).2) h3 (λe he=>?_)));refine aQ (h4 e he) λp q r=>?_;exact ⟨p,q,r.sim S hp⟩
theorem fD.sim (S:hU ow H az H' a)(hf:f≠a)(hp:Off ow H a .pipe){h:Int}(x:fD ow H h f):fD az H' h f:=by
 refine x _ λh1 q22=>?_;refine q22 _ λrd wr p h2 h3=>?_;refine cX (S.cell f _ h2 hf) λy z=>?_;exact (.mk (y.trans h1) (.mk rd wr p z (h3.sim S hp)))
end
end
noncomputable def oj.own:oj->Option Nat
 |.proc i=>some i|.ew i=>some i|.desc i=>some i|.slots i=>some i|.dq i=>some i|.aI i=>some i|.bl i=>some i
 |_=>none
noncomputable def oj.UK:oj->Bool
 |.k _ _=>true
 |_=>false
section
variable {w:W}
theorem xP (R:Rel g ow w H)(hl:ow a=l)(hk:l.UK=false):∀b m o',ow b=.k m o'->(H.upd a o) b=some o':=by
 intro b m o' h;have:b≠a:=by
  intro e;subst e;rw [h] at hl;subst hl;injection hk
 rw [aY this];exact R.aM b m o' h
theorem S8 (hl:ow a=l)(hi:l.own=some i)(l':oj)(h:l'.own≠some i):Off ow H a l':=
 Off.w4 hl (λe=>h (by refine (e)▸?_;exact hi))
theorem S9 (h:j≠i):(some j:Option Nat)≠some i:=λe=>h (Option.some.inj e)
theorem ah:(w.aL i P).ps i=P:=if_pos rfl
theorem aD (h:j≠i):(w.aL i P).ps j=w.ps j:=if_neg h
theorem sW (h:w.ps i=P):w.aL i P=w:=by
 subst h;have:(w.aL i (w.ps i)).ps=w.ps:=by funext j;unfold W.aL;simp only [];split<;>simp_all
 induction w;simp only [W.aL] at*;rw [this]
theorem dn:(w.aL i P).aL i P'=w.aL i P':=by
 unfold W.aL;congr 1;funext j;simp only [];split<;>rfl
theorem Rel.GV (R:Rel g ow w H)(hl:ow a=l)(hi:l.own=some i)(hP:iF g ow (H.upd a o) i P):Rel g ow (w.aL i P) (H.upd a o):=by
 have S:hU ow H ow (H.upd a o) a:=hU.upd H o;have O:∀l',l'.own≠some i->Off ow H a l':=S8 hl hi;have hk:l.UK=false:=by induction l<;>first|rfl|injection hi
 refine (.mk (xP R hl hk) (R.tab.sim S (O _ (ip rfl))) (S.at (O _ (ip rfl)) R.je.1 R.je.2) (λj hj=>?_) (S.at (O _ (ip rfl)) R.aj.1 R.aj.2) ?_ (R.cg.sim S (O _ (ip rfl)) (O _ (ip rfl)))
  (S.at (O .b7 (ip rfl)) R.b7.1 R.b7.2) (R.bM.sim S (O _ (ip rfl)) (O _ (ip rfl))) (λf hf=>(R.file f hf).sim S ?_ (O _ (ip rfl))))
 ·by_cases e:j=i
  ·subst e;simp only [ah];exact hP
  ·rw [aD e]
   have h:=S9 e;exact (R.proc j hj).sim S (O _ h) (.mk (O _ h) (O _ h) (O _ h) (O _ h) (O _ h) (O _ h))
 ·obtain ⟨x,dv,y⟩:=R.parts
  exact ⟨x,dv,(S.at (O .parts (ip rfl)) x y).2⟩
 ·intro e;have:=(R.file f hf).o;rw [e,hl] at this;subst this;injection hi
theorem Rel.jV (R:Rel g ow w H)(hi:i<24)(ok:uf P)(hc:om ow cv P.cF)(hr:fg ow H i rg)(hf:pv ow H i fv P.fl)(hj:xK g ow H i jv P.dq):
  Rel g ow (w.aL i P) (H.upd (g.pa i) (.inst .bw (JK g i P cv nm tn rg fv jv))):=by
 have op:=(R.proc i hi).o;have S:hU ow H ow (H.upd (g.pa i) (.inst .bw (JK g i P cv nm tn rg fv jv))) (g.pa i):=hU.upd H _;have O:∀l',oj.proc i≠l'->Off ow H (g.pa i) l':=λl' h=>Off.w4 op h;exact R.GV op rfl (.mk op (.mk cv nm tn rg fv jv (.mk (ak _ _ _) ok hc (hr.sim S (O _ (ay rfl))) (hf.sim S (O _ (ay rfl)) (O _ (ay rfl))) (hj.sim S (O _ (ay rfl)) (O _ (ay rfl)) (O _ (ay rfl))))))
theorem Rel.sX (R:Rel g ow w H)(hi:i<24):vt g ow H i (w.ps i):=(R.proc i hi).h
section
variable {G:Prop}
theorem Rel.pw (R:Rel g ow w H)(hi:i<24)(k:∀cv nm tn rg fv jv,cQ g ow H i (w.ps i) cv nm tn rg fv jv->G):G:=(R.proc i hi).h _ k
theorem gi.wy (J:gi g ow H i k t j)(k':∀sh,H j.ja=some (.inst .cV (zc g i j.made k t sh))->G):G:=J.h _ k'
theorem Rel.tQ (R:Rel g ow w H)(k:ow g.tab=.tab->∀o,TabAt g H w.next w.fst w.last o->G):G:=R.tab.h _ (k R.tab.o)
theorem Rel.Z0 (R:Rel g ow w H)(k:ow g.cg=.cg->∀dv o vs,H g.cg=some (.inst .aP (lZ g dv o))->ow o=.Bw->H o=some (.list vs)->vs.length<=w.dG->(∀v∈vs,∃f∈w.fs,v=.ref f)->G):G:=R.cg.h _ (k R.cg.o)
theorem eP.el (S:eP ow H i k st)(k':ow k=.aI i->∀vs,H k=some (.list vs)->bZ (i9 ow) vs.reverse st->vs.length<500->G):G:=S.h _ (k' S.o)
theorem fC.el (S:fC ow H i k st)(k':ow k=.bl i->∀vs,H k=some (.list vs)->bZ (λv (x:Int×Int)=>bQ ow v (.tuple [.int x.1,.int x.2])) vs st->vs.length<500->G):G:=S.h _ (k' S.o)
theorem fD.el {h:Int}(S:fD ow H h f)(k:ow f=.file->∀rd wr p,H f=some (.inst .bV (kX rd wr h p))->b9 ow H p->G):G:=S.h _ (k S.o)
theorem b9.el (S:b9 ow H p)(k:ow p=.pipe->∀id rv x y,H p=some (.inst .eF (rO id rv x y))->G):G:=S.h _ (k S.o)
theorem e6.el (S:e6 g ow H n)(k:ow g.bM=.bM->∀es,H g.bM=some (.dict es)->es.length<=n->(∀e∈es,∃p,e.2=V.ref p/\b9 ow H p)->G):G:=S.h _ (k S.o)
theorem fg.el (S:fg ow H i rg)(k:ow rg=.ew i->∀xs,H rg=some (.list xs)->xs.length=32->G):G:=S.h _ (k S.o)
end
theorem Rel.By (R:Rel g ow w H)(hi:i<24)(A:cQ g ow H i (w.ps i) cv nm tn rg (.ref d) jv)(B:cc ow H i d s sl)(hl:sl'.length=6):
  Rel g ow (w.aL i {w.ps i with fl:=some sl'}) (H.upd s (.list (sl'.map wA))):=by
 have S:hU ow H ow (H.upd s (.list (sl'.map wA))) s:=hU.upd H _;have O:∀l',oj.slots i≠l'->Off ow H s l':=λl' h=>Off.w4 B.os h;have op:=(R.proc i hi).o;refine R.GV B.os rfl (.mk op (.mk cv nm tn rg (.ref d) jv (.mk ((S.at (O (.proc i) (ay rfl)) op A.h).2) (.mk A.ok.aJ A.ok.cF) A.cF (A.ew.sim S (O _ (ay rfl))) (.mk d s rfl ?_) (A.dq.sim S (O _ (ay rfl)) (O _ (ay rfl)) (O _ (ay rfl))))));exact (.mk B.od ((S.at (O (.desc i) (ay rfl)) B.od B.hd).2) B.os (ak _ _ _) hl)
theorem Rel.Of (R:Rel g ow w H)(hi:i<24)(o:ow rg=.ew i)(hl:xs.length=32):Rel g ow w (H.upd rg (.list xs)):=by
 have S:hU ow H ow (H.upd rg (.list xs)) rg:=hU.upd H _;have O:∀l',oj.ew i≠l'->Off ow H rg l':=λl' h=>Off.w4 o h;refine (R.proc i hi) _ λop ZY=>?_;refine ZY _ λcv nm tn r fv jv A=>?_;have hr:fg ow (H.upd rg (.list xs)) i r:=by
  by_cases e:r=rg
  ·subst e;exact (.mk o (.mk xs (ak _ _ _) hl))
  ·refine A.ew _ λa q24=>?_;refine q24 _ λys b c=>?_
   exact (.mk a (.mk ys (by rw [aY e];exact b) c))
 have:=R.GV o rfl (P:=w.ps i) (o:=.list xs) (.mk op (.mk cv nm tn r fv jv (.mk ((S.at (O (.proc i) (ay rfl)) op A.h).2) A.ok A.cF hr (A.fl.sim S (O _ (ay rfl)) (O _ (ay rfl))) (A.dq.sim S (O _ (ay rfl)) (O _ (ay rfl)) (O _ (ay rfl))))))
 rwa [sW rfl] at this
theorem Rel.vv (R:Rel g ow w H)(hi:i<24)(A:cQ g ow H i (w.ps i) cv nm tn rg fv (.ref j.ja))(B:gi g ow H i k t j)(hv:bZ (i9 ow) vs.reverse st)(hl:vs.length<500):
  Rel g ow (w.aL i {w.ps i with dq:=some {j with aI:=st}}) (H.upd k (.list vs)):=by
 have S:hU ow H ow (H.upd k (.list vs)) k:=hU.upd H _;have O:∀l',oj.aI i≠l'->Off ow H k l':=λl' h=>Off.w4 B.aI.o h;have op:=(R.proc i hi).o;refine B.h _ λsh hs=>?_;refine R.GV B.aI.o rfl (.mk op (.mk cv nm tn rg fv (.ref j.ja) (.mk ((S.at (O (.proc i) (ay rfl)) op A.h).2) (.mk A.ok.aJ A.ok.cF) A.cF (A.ew.sim S (O _ (ay rfl))) (A.fl.sim S (O _ (ay rfl)) (O _ (ay rfl))) (.mk rfl k t ?_))));exact (.mk B.o (.mk sh ((S.at (O (.dq i) (ay rfl)) B.o hs).2)) (.mk B.aI.o (.mk vs (ak _ _ _) hv hl)) (B.bl.sim S (O _ (ay rfl))))
theorem Rel.JL (R:Rel g ow w H)(hi:i<24)(A:cQ g ow H i (w.ps i) cv nm tn rg fv (.ref j.ja))(B:gi g ow H i k t j)
  (hv:bZ (λv (x:Int×Int)=>bQ ow v (.tuple [.int x.1,.int x.2])) vs st) (hl:vs.length<500):
  Rel g ow (w.aL i {w.ps i with dq:=some {j with bl:=st}}) (H.upd t (.list vs)):=by
 have S:hU ow H ow (H.upd t (.list vs)) t:=hU.upd H _;have O:∀l',oj.bl i≠l'->Off ow H t l':=λl' h=>Off.w4 B.bl.o h;have op:=(R.proc i hi).o;refine B.h _ λsh hs=>?_;refine R.GV B.bl.o rfl (.mk op (.mk cv nm tn rg fv (.ref j.ja) (.mk ((S.at (O (.proc i) (ay rfl)) op A.h).2) (.mk A.ok.aJ A.ok.cF) A.cF (A.ew.sim S (O _ (ay rfl))) (A.fl.sim S (O _ (ay rfl)) (O _ (ay rfl))) (.mk rfl k t ?_))));exact (.mk B.o (.mk sh ((S.at (O (.dq i) (ay rfl)) B.o hs).2)) (B.aI.sim S (O _ (ay rfl))) (.mk B.bl.o (.mk vs (ak _ _ _) hv hl)))
theorem Rel.JM (R:Rel g ow w H)(hi:i<24){cv nm tn rg fv k t sh mk}(A:cQ g ow H i (w.ps i) cv nm tn rg fv (.ref j.ja))(B:gi g ow H i k t j):
  Rel g ow (w.aL i {w.ps i with dq:=some {j with made:=mk}}) (H.upd j.ja (.inst .cV (zc g i mk k t sh))):=by
 have S:hU ow H ow (H.upd j.ja (.inst .cV (zc g i mk k t sh))) j.ja:=hU.upd H _;have O:∀l',oj.dq i≠l'->Off ow H j.ja l':=λl' h=>Off.w4 B.o h;have op:=(R.proc i hi).o;refine R.GV B.o rfl (.mk op (.mk cv nm tn rg fv (.ref j.ja) (.mk ((S.at (O (.proc i) (ay rfl)) op A.h).2) (.mk A.ok.aJ A.ok.cF) A.cF (A.ew.sim S (O _ (ay rfl))) (A.fl.sim S (O _ (ay rfl)) (O _ (ay rfl))) (.mk rfl k t ?_))));exact (.mk B.o (.mk sh (ak _ _ _)) (B.aI.sim S (O _ (ay rfl))) (B.bl.sim S (O _ (ay rfl))))
theorem Rel.w5 (R:Rel g ow w H)(hl:ow a=l)(hk:l.UK=false)(hn:l.own=none)(hp:w'.ps=w.ps)(tab:kY g ow (H.upd a o) w'.next w'.fst w'.last)
  (je:l≠.je)(aj:l≠.aj)(parts:l≠.parts)(cg:iG g ow (H.upd a o) w'.dG w'.fs)(b7:(H.upd a o) g.b7=some (.inst .bj [(.et,.int 4),(.eT,.int w'.eu),(.dh,.ref g.bM)]))
  (bM:e6 g ow (H.upd a o) w'.eu)(file:∀f∈w'.fs,fD ow (H.upd a o) (w'.bP f) f):Rel g ow w' (H.upd a o):=by
 have S:hU ow H ow (H.upd a o) a:=hU.upd H o;have O:∀l',l≠l'->Off ow H a l':=λl' h=>Off.w4 hl h;refine (.mk (xP R hl hk) tab (S.at (O _ je) R.je.1 R.je.2) (λj hj=>?_) (S.at (O _ aj) R.aj.1 R.aj.2) ?_ cg ⟨R.b7.1,b7⟩ bM file)
 ·rw [hp]
  have h:∀l',l'.own=some j->Off ow H a l':=λl' h=>O _ (λe=>by rw [<- e,hn] at h;injection h);exact (R.proc j hj).sim S (h _ rfl) (.mk (h _ rfl) (h _ rfl) (h _ rfl) (h _ rfl) (h _ rfl) (h _ rfl))
 ·obtain ⟨x,dv,y⟩:=R.parts
  exact ⟨x,dv,(S.at (O _ parts) x y).2⟩
theorem Rel.rP (R:Rel g ow w H)(hl:ow a=l)(h:l≠.file)(hf:f∈w.fs):f≠a:=λe=>h (by have:=(R.file f hf).o;rw [e,hl] at this;exact this)
theorem Rel.sY (R:Rel g ow w H)(hl:l<24)(hf:∀q,f=some q->q<24) (hr:∀q,run=some q->q<24):Rel g ow {w with next:=nx,fst:=f,last:=l} (H.upd g.tab (.inst .aK (Oe g nx l f (Bx g run)))):=by
 have S:hU ow H ow (H.upd g.tab (.inst .aK (Oe g nx l f (Bx g run)))) g.tab:=hU.upd H _;have O:∀l',oj.tab≠l'->Off ow H g.tab l':=λl' h=>Off.w4 R.tab.o h;exact R.w5 R.tab.o rfl rfl rfl (.mk R.tab.o (.mk run (.mk (ak _ _ _) hl hf hr))) (ay rfl) (ay rfl) (ay rfl) (R.cg.sim S (O _ (ay rfl)) (O _ (ay rfl))) (S.at (O .b7 (ay rfl)) R.b7.1 R.b7.2).2
  (R.bM.sim S (O _ (ay rfl)) (O _ (ay rfl))) (λf hf=>(R.file f hf).sim S (R.rP R.tab.o (ay rfl) hf) (O _ (ay rfl)))
theorem Rel.setOpen (R:Rel g ow w H)(hf:H g.cg=some (.inst .aP (lZ g dv o)))(ho:ow o=.Bw)(hn:vs.length<=n)(hv:∀v∈vs,∃f∈w.fs,v=.ref f):
  Rel g ow {w with dG:=n} (H.upd o (.list vs)):=by
 have S:hU ow H ow (H.upd o (.list vs)) o:=hU.upd H _;have O:∀l',oj.Bw≠l'->Off ow H o l':=λl' h=>Off.w4 ho h;exact R.w5 ho rfl rfl rfl (R.tab.sim S (O _ (ay rfl))) (ay rfl) (ay rfl) (ay rfl) (.mk R.cg.o (.mk dv o vs ((S.at (O .cg (ay rfl)) R.cg.o hf).2) ho (ak _ _ _) hn hv)) (S.at (O .b7 (ay rfl)) R.b7.1 R.b7.2).2
  (R.bM.sim S (O _ (ay rfl)) (O _ (ay rfl))) (λf hf=>(R.file f hf).sim S (R.rP ho (ay rfl) hf) (O _ (ay rfl)))
theorem Rel.Og (R:Rel g ow w H)(ho:ow o=.Bw)(h:H o=some (.list vs))(hn:vs.length<=w.dG)(hv:∀v∈vs,∃f∈w.fs,v=.ref f):
  Rel g ow w (H.upd g.cg (.inst .aP (lZ g dv o))):=by
 have S:hU ow H ow (H.upd g.cg (.inst .aP (lZ g dv o))) g.cg:=hU.upd H _;have O:∀l',oj.cg≠l'->Off ow H g.cg l':=λl' h=>Off.w4 R.cg.o h;exact R.w5 R.cg.o rfl rfl rfl (R.tab.sim S (O _ (ay rfl))) (ay rfl) (ay rfl) (ay rfl) (.mk R.cg.o (.mk dv o vs (ak _ _ _) ho ((S.at (O .Bw (ay rfl)) ho h).2) hn hv)) (S.at (O .b7 (ay rfl)) R.b7.1 R.b7.2).2
  (R.bM.sim S (O _ (ay rfl)) (O _ (ay rfl))) (λf hf=>(R.file f hf).sim S (R.rP R.cg.o (ay rfl) hf) (O _ (ay rfl)))
theorem Rel.Bz (R:Rel g ow w H)(hn:es.length<=w.eu)(hv:∀e∈es,∃p,e.2=V.ref p/\b9 ow H p):Rel g ow w (H.upd g.bM (.dict es)):=by
 have S:hU ow H ow (H.upd g.bM (.dict es)) g.bM:=hU.upd H _;have O:∀l',oj.bM≠l'->Off ow H g.bM l':=λl' h=>Off.w4 R.bM.o h;exact R.w5 R.bM.o rfl rfl rfl (R.tab.sim S (O _ (ay rfl))) (ay rfl) (ay rfl) (ay rfl) (R.cg.sim S (O _ (ay rfl)) (O _ (ay rfl))) (S.at (O .b7 (ay rfl)) R.b7.1 R.b7.2).2
  (.mk R.bM.o (.mk es (ak _ _ _) hn (λe he=>let ⟨p,q,r⟩:=hv e he;⟨p,q,r.sim S (O _ (ay rfl))⟩))) (λf hf=>(R.file f hf).sim S (R.rP R.bM.o (ay rfl) hf) (O _ (ay rfl)))
theorem Rel.Oh (R:Rel g ow w H){p id rv x y}(ho:ow p=.pipe):Rel g ow w (H.upd p (.inst .eF (rO id rv x y))):=by
 have S:hU ow H ow (H.upd p (.inst .eF (rO id rv x y))) p:=hU.upd H _;have O:∀l',oj.pipe≠l'->Off ow H p l':=λl' h=>Off.w4 ho h;have P:∀q,b9 ow H q->b9 ow (H.upd p (.inst .eF (rO id rv x y))) q:=λq Z1=>Z1 _ λa Z2=>Z2 _ λb c d e f=>by
  by_cases h:q=p
  ·refine h▸?_;exact (.mk a (.mk _ _ _ _ (ak _ _ _)))
  ·exact (.mk a (.mk b c d e (by rw [aY h];exact f)))
 refine R.w5 ho rfl rfl rfl (R.tab.sim S (O _ (ay rfl))) (ay rfl) (ay rfl) (ay rfl) (R.cg.sim S (O _ (ay rfl)) (O _ (ay rfl))) (S.at (O .b7 (ay rfl)) R.b7.1 R.b7.2).2 ?_ (λf hf=>?_)
 ·refine R.bM _ λh1 q25=>?_;refine q25 _ λes h2 h3 h4=>?_
  exact (.mk h1 (.mk es ((S.at (O .bM (ay rfl)) h1 h2).2) h3 (λe he=>let ⟨p,q,r⟩:=h4 e he;⟨p,q,P _ r⟩)))
 ·refine (R.file f hf) _ λh1 ZW=>?_;refine ZW _ λrd wr q h2 h3=>?_
  exact (.mk h1 (.mk rd wr q ((S.at (O .file (ay rfl)) h1 h2).2) (P _ h3)))
theorem Rel.Oi (R:Rel g ow w H)(hn:w.eu<=n):Rel g ow {w with eu:=n} (H.upd g.b7 (.inst .bj [(.et,.int 4),(.eT,.int n),(.dh,.ref g.bM)])):=by
 have S:hU ow H ow (H.upd g.b7 (.inst .bj [(.et,.int 4),(.eT,.int n),(.dh,.ref g.bM)])) g.b7:=hU.upd H _;have O:∀l',oj.b7≠l'->Off ow H g.b7 l':=λl' h=>Off.w4 R.b7.1 h;refine R.w5 R.b7.1 rfl rfl rfl (R.tab.sim S (O _ (ay rfl))) (ay rfl) (ay rfl) (ay rfl) (R.cg.sim S (O _ (ay rfl)) (O _ (ay rfl))) (ak _ _ _) ?_ (λf hf=>(R.file f hf).sim S (R.rP R.b7.1 (ay rfl) hf) (O _ (ay rfl)));refine (R.bM.sim S (O _ (ay rfl)) (O _ (ay rfl))) _ λh1 ZX=>?_;refine ZX _ λes h2 h3 h4=>?_;exact (.mk h1 (.mk es h2 (Nat.le_trans h3 hn) h4))
noncomputable def W.km (w:W)(f:Nat)(h:Int):W:={w with bP:=λb=>if b=f then h else w.bP b}
theorem Rel.EV (R:Rel g ow w H)(ho:ow f=.file)(hp:b9 ow H p):Rel g ow (w.km f h) (H.upd f (.inst .bV (kX rd wr h p))):=by
 have S:hU ow H ow (H.upd f (.inst .bV (kX rd wr h p))) f:=hU.upd H _;have O:∀l',oj.file≠l'->Off ow H f l':=λl' h=>Off.w4 ho h;refine R.w5 ho rfl rfl rfl (R.tab.sim S (O _ (ay rfl))) (ay rfl) (ay rfl) (ay rfl) (R.cg.sim S (O _ (ay rfl)) (O _ (ay rfl))) (S.at (O .b7 (ay rfl)) R.b7.1 R.b7.2).2
  (R.bM.sim S (O _ (ay rfl)) (O _ (ay rfl))) (λf' hf=>?_)
 by_cases e:f'=f
 ·subst e;simp only [W.km,if_pos];exact (.mk ho (.mk rd wr p (ak _ _ _) (hp.sim S (O _ (ay rfl)))))
 ·simp only [W.km,if_neg e];exact (R.file f' hf).sim S e (O _ (ay rfl))
theorem Rel.move (R:Rel g ow w H)(hO:∀l,l.UK=false->Off ow H a l) (hH:∀b,b≠a->H' b=H b) (hw:∀b,b≠a->az b=ow b) (hE:qF ow az) (hk:∀m o,az a=.k m o->H' a=some o):Rel g az w H':=by
 have S:hU ow H az H' a:=(.mk (λb o hb dw=>⟨hw b dw,(hH b dw).trans hb⟩) hE);refine (.mk (λb m o hb=>?_) (R.tab.sim S (hO _ rfl)) (S.at (hO _ rfl) R.je.1 R.je.2) (λj hj=>(R.proc j hj).sim S (hO _ rfl) (.mk (hO _ rfl) (hO _ rfl) (hO _ rfl) (hO _ rfl) (hO _ rfl) (hO _ rfl))) (S.at (hO _ rfl) R.aj.1 R.aj.2) ?_
  (R.cg.sim S (hO _ rfl) (hO _ rfl)) (S.at (hO _ rfl) R.b7.1 R.b7.2) (R.bM.sim S (hO _ rfl) (hO _ rfl)) (λf hf=>(R.file f hf).sim S ?_ (hO _ rfl)))
 ·by_cases e:b=a
  ·subst e;exact hk _ _ hb
  ·rw [hH b e];exact R.aM b m o (by rw [<- hw b e];exact hb)
 ·obtain ⟨x,dv,y⟩:=R.parts
  exact ⟨(S.at (hO _ rfl) x y).1,dv,(S.at (hO _ rfl) x y).2⟩
 ·refine (R.file f hf) _ λh1 q28=>?_;refine q28 _ λrd wr p h2 _=>?_
  exact hO _ rfl f _ h2 h1
theorem aq (R:Rel g ow w H)(h:H a=none)(l:oj):Ext ow (ow.set a l):=λb m o hb=>by
 have:b≠a:=λe=>by rw [<- e,R.aM b m o hb] at h;injection h
 rw [bC this];exact hb
theorem kq (h:ow a=.k true o)(l:oj):qF ow (ow.set a l):=λb o' hb=>by
 have:b≠a:=λe=>by replace hb:=(h)▸(e)▸hb;cases hb
 rw [bC this];exact hb
theorem Rel.new (R:Rel g ow w H)(h:H a=none)(hk:∀m o',l=.k m o'->o'=o):Rel g (ow.set a l) w (H.upd a o):=
 R.move (λl Z=>Off.fresh h l) (λb hb=>aY hb o) (λb hb=>bC hb l) (aq R h l).i (λm o' e=>by rw [aC] at e;rw [ak,hk m o' e])
theorem Rel.dM (R:Rel g ow w H)(h:H a=none):Rel g (ow.set a (.k m o)) w (H.upd a o):=R.new h (λZ Z e=>by cases e;rfl)
theorem Rel.mod (R:Rel g ow w H)(h:ow a=.k true o)(hk:∀m o',l=.k m o'->o'=o1):Rel g (ow.set a l) w (H.upd a o1):=
 R.move (λl hl=>Off.w4 h (λe=>by rw [<- e] at hl;injection hl)) (λb hb=>aY hb o1) (λb hb=>bC hb l) (kq h l) (λm o' e=>by rw [aC] at e;rw [ak,hk m o' e])
theorem Rel.dR (R:Rel g ow w H)(h:ow a=.k true o)(hk:∀m o',l=.k m o'->o'=o):Rel g (ow.set a l) w H:=
 R.move (λl hl=>Off.w4 h (λe=>by rw [<- e] at hl;injection hl)) (λb hb=>rfl) (λb hb=>bC hb l) (kq h l) (λm o' e=>by rw [aC] at e;rw [hk m o' e];exact R.aM a true o h)
theorem Rel.Z3 (R:Rel g ow w H)(hf:fD ow H h f)(hw:w.bP f=h):Rel g ow {w with fs:=f::w.fs} H:=
 (.mk R.aM R.tab R.je R.proc R.aj R.parts (R.cg _ λa q=>q _ λb c d e f' g' h' i=>.mk a (.mk b c d e f' g' h' (λv hv=>let ⟨x,y,z⟩:=i v hv;⟨x,.tail _ y,z⟩))) R.b7 R.bM (λf' pz=>by
  cases pz with
  |head=>refine (hw)▸?_;exact hf
  |tail _ h=>exact R.file f' h))
end
def w7 (r:Ev)(ss:List S)(Q:FP):FP:=λf m H=>match f with
 |.next=>eK r ss m H Q
 |f=>Q f m H
def fin (Q:VP):FP:=λfl Z H=>match fl with
 |.ret v=>Q v H
 |.next=>Q .none H
 |.brk=>False
section
theorem ar (h:F .next m H):eK r [] m H F:=h
theorem rQ (h:q (.int (z+z'))):uP .add (.int z) (.int z') q:=.add _ _ h
theorem Oj (h:q (.int (z - z'))):uP .sub (.int z) (.int z') q:=.sub _ _ h
theorem ax (h:eK r ss m H F):w7 r ss F .next m H:=h
theorem k_ret (h:F (.ret v) m H):w7 r ss F (.ret v) m H:=h
theorem bA (h:Q v H):fin Q (.ret v) m H:=h
theorem cC (h:Q .none H):fin Q .next m H:=h
theorem bo (hm:meths cl x=some f)(hl:vs.length=f.params.length)(hp:pad f.params vs=ms)(h:eK (ev (aj k) 40) f.body ms H (fin Q)):(aj (k+1)).aB cl x vs H Q:=by
 subst hp;refine (?_:match meths cl x with|some g=>nc (aj k) g vs H Q|none=>False);refine (hm)▸?_;exact ⟨.inl hl,h⟩
theorem sZ (hm:nX x=some f)(hl:vs.length=f.params.length)(hp:pad f.params vs=ms)(h:eK (ev (aj k) 40) f.body ms H (fin Q)):(aj (k+1)).fn x vs H Q:=by
 subst hp;refine (?_:match nX x with|some g=>nc (aj k) g vs H Q|none=>False);refine (hm)▸?_;exact ⟨.inl hl,h⟩
theorem bK (h:(ev C n).E a m H λZ H=>eK (ev C (n+1)) ss m H F):eK (ev C (n+1)) (.expr a::ss) m H F:=h
theorem dT (h:(ev C n).E a m H λv H=>eK (ev C (n+1)) ss (put x v m) H F):eK (ev C (n+1)) (.asg x a::ss) m H F:=h
theorem eW (h:(ev C n).E a m H λw H=>(ev C n).E o m H λv H=>fJ H v x w λH=>eK (ev C (n+1)) ss m H F):eK (ev C (n+1)) (.ag o x a::ss) m H F:=h
theorem xQ (h:(ev C n).E a m H λw H=>(ev C n).E o m H λv H=>(ev C n).E i m H λj H=>oX H v j w λH=>eK (ev C (n+1)) ss m H F):eK (ev C (n+1)) (.i3 o i a::ss) m H F:=h
theorem oq (h:(ev C n).E a m H (IE xs m λm H=>eK (ev C (n+1)) ss m H F)):eK (ev C (n+1)) (.unpack xs a::ss) m H F:=h
theorem vw (hp:H p=some (.tuple vs))(hl:vs.length=xs.length)(h:q (putAll xs vs m) H):IE xs m q (.ref p) H:=.mk _ _ hp hl h
theorem Ws (hl:look x m=some v)(h:(ev C n).E a m H λw H=>uP op v w λu=>eK (ev C (n+1)) ss (put x u m) H F):eK (ev C (n+1)) (.aug x op a::ss) m H F:=nY.mk _ hl h
theorem l5 (h:(ev C n).E o m H λv H=>rD H v x λu=>(ev C n).E a m H λw H=>uP op u w λz=>fJ H v x z λH=>eK (ev C (n+1)) ss m H F):eK (ev C (n+1)) (.gW o x op a::ss) m H F:=h
theorem cG (h:(ev C n).T c m H λb H=>if b then eK (ev C n) t m H (w7 (ev C (n+1)) ss F) else eK (ev C n) e m H (w7 (ev C (n+1)) ss F)):eK (ev C (n+1)) (.ez c t e::ss) m H F:=h
theorem fU (h:(ev C n).E a m H λv H=>F (.ret v) m H):eK (ev C (n+1)) (.ret a::ss) m H F:=h
theorem l6 {b}(h:wW (ev C n) it m H λs H=>nZ (ev C n) (bind1 x) s b s.items m H (w7 (ev C (n+1)) ss F)):eK (ev C (n+1)) (.iy x it b::ss) m H F:=h
theorem JN {b}(h:wW (ev C n) it m H λs H=>nZ (ev C n) (uR x y) s b s.items m H (w7 (ev C (n+1)) ss F)):eK (ev C (n+1)) (.yE x y it b::ss) m H F:=h
theorem BA (h:eK (ev C n) t m H (w7 (ev C (n+1)) ss F)):eK (ev C (n+1)) (.nS t::ss) m H F:=h
theorem fE (h:Q .none H):(ev C (n+1)).E .none m H Q:=h
theorem Wt (h:Q (.bool true) H):(ev C (n+1)).E .tt m H Q:=h
theorem Ta (h:Q (.bool false) H):(ev C (n+1)).E .ff m H Q:=h
theorem da (h:Q (.int z) H):(ev C (n+1)).E (.int z) m H Q:=h
theorem BB (h:Q (.str z) H):(ev C (n+1)).E (.str z) m H Q:=h
theorem tR (hl:uO x=some v)(h:Q v H):(ev C (n+1)).E (.kL x) m H Q:=tH.mk _ hl h
theorem dY (hl:look x m=some v)(h:Q v H):(ev C (n+1)).E (.var x) m H Q:=nY.mk _ hl h
theorem DB (h:(ev C n).E o m H λv H=>rD H v x λw=>Q w H):(ev C (n+1)).E (.attr o x) m H Q:=h
theorem iH (hp:H p=some (.inst cl fs))(hl:look x fs=some w)(h:q w):rD H (.ref p) x q:=.mk _ _ _ _ hp hl h
theorem gj (hv:look y m=some (.ref p))(hp:H p=some (.inst cl fs))(hl:look x fs=some w)(h:Q w H):(ev C (n+2)).E (.attr (.var y) x) m H Q:=DB (dY hv (iH hp hl h))
theorem EW (hv:look y m=some (.ref p))(hp:H p=some (.inst cl fs))(hl:look x fs=some (.ref p'))(Cu:H p'=some (.inst QE fs'))(L8:look z fs'=some w')(h:Q w' H):(ev C (n+3)).E (.attr (.attr (.var y) x) z) m H Q:=DB (gj hv hp hl (iH Cu L8 h))
theorem cW (hp:H p=some (.inst cl fs))(ha:attrOk cl x=true)(hl:Nat.blt fs.length 900=true)(hf:put x w fs=fs')(h:q (H.upd p (.inst cl fs'))):fJ H (.ref p) x w q:=.mk _ _ _ hp ha (Nat.le_of_ble_eq_true hl) (hf▸h)
theorem JO (h:(ev C n).E a m H λv H=>(ev C n).E b m H λw H=>iz H cp v w λb=>Q (.bool b) H):(ev C (n+1)).E (.cmp cp a b) m H Q:=h
theorem p9 (h:(ev C n).E a m H λv H=>(ev C n).E b m H λw H=>wU H op v w Q):(ev C (n+1)).E (.bin op a b) m H Q:=h
theorem pA (h:Q (.int (z+z')) H):wU H .add (.int z) (.int z') Q:=.add _ _ h
theorem Wu (h:(ev C n).T c m H λt H=>if t then (ev C n).E a m H Q else (ev C n).E b m H Q):(ev C (n+1)).E (.ite c a b) m H Q:=h
theorem xR (h:nH (ev C n) es m H λvs H=>alloc H (.tuple vs) Q):(ev C (n+1)).E (.tup es) m H Q:=h
theorem JP (h:nH (ev C n) es m H λvs H=>alloc H (.list vs) Q):(ev C (n+1)).E (.lst es) m H Q:=h
theorem cA (h:q [] H):nH r [] m H q:=h
theorem aT (h:r.E a m H λv H=>nH r es m H λvs H=>q (v::vs) H):nH r (a::es) m H q:=h
theorem QF (h:(ev C n).E a m H λv H=>(ev C n).E i m H λw H=>Dc H v w λx=>Q x H):(ev C (n+1)).E (.idx a i) m H Q:=h
theorem abE (h:(ev C n).E a m H λv H=>jI H v λxs=>xs.length<1000/\alloc H (.list xs.reverse) q):(ev C (n+1)).E (.rev a) m H q:=h
theorem YA (hf:(nX x).isSome=true)(h:nH (ev C n) es m H λvs H=>C.fn x vs H Q):(ev C (n+1)).E (.dQ x es) m H Q:=⟨hf,h⟩
theorem nj (hf:d5 x=true)(h:nH (ev C n) es m H λvs H=>∀a,H a=none->C.aB x .bI (.ref a::vs) (H.upd a (.inst x [])) λv H=>v=.none/\Q (.ref a) H):(ev C (n+1)).E (.new x es) m H Q:=⟨hf,h⟩
theorem vx (h:(ev C n).E o m H λv H=>ki H (λx v kd=>sD kd x=true/\nH (ev C n) es m H λvs H=>pX C H kd v x vs Q) x v):(ev C (n+1)).E (.aB o x es) m H Q:=h
theorem mP (h:C.aB cl x (v::vs) H Q):pX C H (.inst cl) v x vs Q:=h
theorem jz (hp:H p=some (.inst cl fs))(hc:d5 cl=true)(hl:look x fs=none)(h:q x (.ref p) (.inst cl)):ki H q x (.ref p):=.inst _ _ _ _ hp hc hl h
theorem l7 (hp:H p=some (.list xs))(h:q .eL (.ref p) .append):ki H q .eL (.ref p):=.append _ _ hp h
theorem JQ (hp:H p=some (.list xs))(h:q .lL (.ref p) .extend):ki H q .lL (.ref p):=.extend _ _ hp h
theorem JR (hp:H p=some (.list xs))(h:q .xl (.ref p) .pop):ki H q .xl (.ref p):=.pop _ _ hp h
theorem Ol (hp:H p=some (.dict xs))(h:q .m8 (.ref p) .get):ki H q .m8 (.ref p):=.get _ _ hp h
theorem abF (h:(ev C n).E a m H (IA QE Q)):(ev C (n+1)).E (.iZ a QE) m H Q:=h
theorem lD {QE b}(hp:H p=some (.inst cl fs))(hc:(cl==.fT||cl==.eE||cl==.fY)=true)(hb:(cl==QE)=b)(h:Q (.bool b) H):IA QE Q (.ref p) H:=.mk _ _ _ hp hc (hb▸h)
theorem QG (h:(ev C n).E a m H λv H=>F9 H v λn=>Q (.int n) H):(ev C (n+1)).E (.len a) m H Q:=h
theorem Wv (h:(ev C n).E a m H λv H=>jI H v λxs=>xs.length<1000/\alloc H (.list xs) Q):(ev C (n+1)).E (.listOf a) m H Q:=h
theorem iI (hp:H p=some (.list xs))(h:q xs):jI H (.ref p) q:=.mk _ _ hp h
theorem zd (hp:H p=some (.list xs))(hl:xs.length<1000)(h:q xs.length):F9 H (.ref p) q:=.list _ _ hp hl h
theorem zf (h:wW (ev C n) it m H λs H=>s.items.length<1000/\iA (ev C n) el (λZ v H Q=>bind1 x v m H Q) s cn 0 s.items [] H λvs H=>alloc H (.list vs) Q):(ev C (n+1)).E (.comp el x it cn) m H Q:=h
theorem qa (hp:H p=some (.list xs))(h0:0<=j)(h1:j<10000)(hx:xs[j.toNat]?=some w)(h:q w):Dc H (.ref p) (.int j) q:=.list _ _ _ _ hp h0 h1 hx h
theorem JS (hp:H p=some (.tuple xs))(h0:0<=j)(h1:j<10000)(hx:xs[j.toNat]?=some w)(h:q w):Dc H (.ref p) (.int j) q:=.tuple _ _ _ _ hp h0 h1 hx h
theorem vy (hp:H p=some (.list xs))(h0:0<=j)(h1:j<10000)(hx:j.toNat<xs.length)(h:q (H.upd p (.list (xs.set j.toNat w)))):oX H (.ref p) (.int j) w q:=.list _ _ _ hp h0 h1 hx h
theorem vz (h:r.E a m H (xp q)):wW r (.over a) m H q:=h
theorem jA (hp:H p=some (.list xs))(h:q (.seq p (.list xs) xs) H):xp q (.ref p) H:=.list _ _ hp h
theorem Tb (hp:H p=some (.tuple xs))(h:q (.seq p (.tuple xs) xs) H):xp q (.ref p) H:=.tuple _ _ hp h
theorem vA (h:(ev C n).T a m H λt H=>if t then (ev C n).T b m H QT else QT false H):(ev C (n+1)).T (.kM a b) m H QT:=h
theorem JT (h:(ev C n).T a m H λt H=>if t then QT true H else (ev C n).T b m H QT):(ev C (n+1)).T (.yD a b) m H QT:=h
theorem EX (h:(ev C n).T a m H λt H=>QT (!t) H):(ev C (n+1)).T (.jq a) m H QT:=h
theorem iJ (h:(ev C n).E a m H λv H=>(ev C n).E b m H λw H=>iz H cp v w λb=>QT b H):(ev C (n+1)).T (.cmp cp a b) m H QT:=h
theorem qG (h:(ev C n).E (.aB o x es) m H (jJ QT)):(ev C (n+1)).T (.aB o x es) m H QT:=h
theorem JU (h:(ev C n).E (.attr o x) m H (jJ QT)):(ev C (n+1)).T (.attr o x) m H QT:=h
theorem EY (h:(ev C n).E (.dQ x es) m H (jJ QT)):(ev C (n+1)).T (.dQ x es) m H QT:=h
theorem qb (h:(ev C n).E (.iZ o x) m H (jJ QT)):(ev C (n+1)).T (.iZ o x) m H QT:=h
theorem bq {b}(h:QT b H):jJ QT (.bool b) H:=.mk _ h
theorem kr {b}(h:HP H v w b)(hq:q b):iz H .eq v w q:=.eq _ _ _ h hq
theorem jW {b}(h:F8 H v w b)(hq:q b):iz H .si v w q:=.si _ _ _ h hq
theorem ou {b}(h:F8 H v w b)(hq:q (!b)):iz H .sr v w q:=.sr _ _ _ h hq
theorem vB {q b}{c c':Nm}(h:H p=some (.inst c f))(h':H q=some (.inst c' f'))(hb:(p==q)=b):F8 H (.ref p) (.ref q) b:=hb▸.ref _ _ _ _ _ _ h h'
theorem fV {bind s b}(P:Nat->Loc->Hp->Prop)
  (step:∀k v m H (K:Loc->Hp->Prop),items[k]?=some v->P k m H->(∀m' H',P (k+1) m' H'->K m' H')->s.ok H/\bind v m H λm=>eK r b m H λf m H=>match f with|.next=>K m H|.brk=>F .next m H|.ret w=>F (.ret w) m H)
  (fin:∀m H,P items.length m H->s.ok H/\F .next m H) (h0:P 0 m H):nZ r bind s b items m H F:=by
 suffices h:∀(l:List V) k m H,items.drop k=l->k<=items.length->P k m H->nZ r bind s b l m H F from h _ 0 m H rfl (Nat.zero_le _) h0
 intro l;induction l with
 |nil=>
  intro k m H hd hk hP;have:k=items.length:=Nat.le_antisymm hk (List.drop_eq_nil_iff.mp hd);subst this;exact fin m H hP
 |cons v l ih=>
  intro k m H hd hk hP;have fX:k<items.length:=by
   rcases Nat.lt_or_ge k items.length with h|h
   ·exact h
   ·rw [List.drop_eq_nil_iff.mpr h] at hd;cases hd
  have hv:items[k]?=some v:=by
   have:=List.drop_eq_getElem_cons fX;rw [hd] at this;rw [List.getElem?_eq_getElem fX];exact congrArg _ (List.cons.inj this).1.symm
  have Iv:items.drop (k+1)=l:=by rw [<- List.drop_drop,hd];rfl
  exact step k v m H _ hv hP (λm' H' h=>ih (k+1) m' H' Iv fX h)
theorem l8 {el bind s cn}(P:Nat->LP)
  (step:∀k v acc H (K:LP),items[k]?=some v->P k acc H->(∀Ww H',P (k+1) Ww H'->K Ww H')->s.ok H/\bind k v H λm=>yO r cn m H λb H=>if b then r.E el m H λw H=>K (acc++[w]) H else K acc H)
  (fin:∀acc H,P items.length acc H->s.ok H/\q acc H) (h0:P 0 [] H):iA r el bind s cn 0 items [] H q:=by
 suffices h:∀(l:List V) k acc H,items.drop k=l->k<=items.length->P k acc H->iA r el bind s cn k l acc H q from h _ 0 [] H rfl (Nat.zero_le _) h0
 intro l;induction l with
 |nil=>
  intro k m H hd hk hP;have:k=items.length:=Nat.le_antisymm hk (List.drop_eq_nil_iff.mp hd);subst this;exact fin m H hP
 |cons v l ih=>
  intro k acc H hd hk hP;have fX:k<items.length:=by
   rcases Nat.lt_or_ge k items.length with h|h
   ·exact h
   ·rw [List.drop_eq_nil_iff.mpr h] at hd;cases hd
  have hv:items[k]?=some v:=by
   have:=List.drop_eq_getElem_cons fX;rw [hd] at this;rw [List.getElem?_eq_getElem fX];exact congrArg _ (List.cons.inj this).1.symm
  have Iv:items.drop (k+1)=l:=by rw [<- List.drop_drop,hd];rfl
  exact step k v acc H _ hv hP (λm' H' h=>ih (k+1) m' H' Iv fX h)
def Pu (r:Ev)(e:E)(m:Loc)(H:Hp)(v:V):Prop:=∀Q:VP,Q v H->r.E e m H Q
def QH (r:Ev)(es:List E)(m:Loc)(H:Hp)(vs:List V):Prop:=∀Q:LP,Q vs H->nH r es m H Q
theorem cR:Pu (ev C (n+1)) .none m H .none:=λ_ h=>h
theorem ug:Pu (ev C (n+1)) .tt m H (.bool true):=λ_ h=>h
theorem GW:Pu (ev C (n+1)) .ff m H (.bool false):=λ_ h=>h
theorem cS:Pu (ev C (n+1)) (.int z) m H (.int z):=λ_ h=>h
theorem ox:Pu (ev C (n+1)) (.str z) m H (.str z):=λ_ h=>h
theorem ig (hl:uO x=some v):Pu (ev C (n+1)) (.kL x) m H v:=λ_ h=>tR hl h
theorem bh (hl:look x m=some v):Pu (ev C (n+1)) (.var x) m H v:=λ_ h=>dY hl h
theorem bS (hv:look y m=some (.ref p))(hp:H p=some (.inst cl fs))(hl:look x fs=some w):Pu (ev C (n+2)) (.attr (.var y) x) m H w:=λ_ h=>gj hv hp hl h
theorem Wx (hv:look y m=some (.ref p))(hp:H p=some (.inst cl fs))(hl:look x fs=some (.ref p'))(Cu:H p'=some (.inst QE fs'))(L8:look z fs'=some w'):Pu (ev C (n+3)) (.attr (.attr (.var y) x) z) m H w':=λ_ h=>EW hv hp hl Cu L8 h
theorem aA:QH r [] m H []:=λ_ h=>h
theorem ao (h1:Pu r a m H v)(h2:QH r es m H vs):QH r (a::es) m H (v::vs):=λ_ h=>h1 _ (h2 _ h)
theorem DC (h1:Pu (ev C n) a m H v)(h:eK (ev C (n+1)) ss (put x v m) H F):eK (ev C (n+1)) (.asg x a::ss) m H F:=h1 _ h
theorem b6 (h1:Pu (ev C n) a m H v)(h:F (.ret v) m H):eK (ev C (n+1)) (.ret a::ss) m H F:=h1 _ h
theorem cH (h1:Pu (ev C n) a m H w)(h2:Pu (ev C n) o m H v)(h:fJ H v x w λH=>eK (ev C (n+1)) ss m H F):eK (ev C (n+1)) (.ag o x a::ss) m H F:=h1 _ (h2 _ h)
theorem Tc (hl:look x m=some v)(h1:Pu (ev C n) a m H w)(h:uP op v w λu=>eK (ev C (n+1)) ss (put x u m) H F):eK (ev C (n+1)) (.aug x op a::ss) m H F:=Ws hl (h1 _ h)
theorem zg (h1:Pu (ev C n) o m H v)(h:rD H v x λw=>Q w H):(ev C (n+1)).E (.attr o x) m H Q:=h1 _ h
theorem DD (h1:Pu (ev C n) a m H v)(h2:Pu (ev C n) b m H w)(h:iz H cp v w λb=>Q (.bool b) H):(ev C (n+1)).E (.cmp cp a b) m H Q:=h1 _ (h2 _ h)
theorem bD (h1:Pu (ev C n) a m H v)(h2:Pu (ev C n) b m H w)(h:iz H cp v w λb=>QT b H):(ev C (n+1)).T (.cmp cp a b) m H QT:=h1 _ (h2 _ h)
theorem s7 (h1:Pu (ev C n) a m H v)(h2:Pu (ev C n) b m H w)(h:wU H op v w Q):(ev C (n+1)).E (.bin op a b) m H Q:=h1 _ (h2 _ h)
theorem ku (h1:Pu (ev C n) a m H v)(h2:Pu (ev C n) i m H w)(h:Dc H v w λx=>Q x H):(ev C (n+1)).E (.idx a i) m H Q:=h1 _ (h2 _ h)
theorem jB (h1:QH (ev C n) es m H vs)(h:alloc H (.tuple vs) Q):(ev C (n+1)).E (.tup es) m H Q:=h1 _ h
theorem gG (h1:QH (ev C n) es m H vs)(h:alloc H (.list vs) Q):(ev C (n+1)).E (.lst es) m H Q:=h1 _ h
theorem jw (hf:(nX x).isSome=true)(h1:QH (ev C n) es m H vs)(h:C.fn x vs H Q):(ev C (n+1)).E (.dQ x es) m H Q:=⟨hf,h1 _ h⟩
theorem JV (hf:d5 x=true)(h1:QH (ev C n) es m H vs)(h:∀a,H a=none->C.aB x .bI (.ref a::vs) (H.upd a (.inst x [])) λv H=>v=.none/\Q (.ref a) H):(ev C (n+1)).E (.new x es) m H Q:=⟨hf,h1 _ h⟩
theorem e7 (h1:Pu (ev C n) o m H v)(h:ki H (λx v kd=>sD kd x=true/\nH (ev C n) es m H λvs H=>pX C H kd v x vs Q) x v):(ev C (n+1)).E (.aB o x es) m H Q:=h1 _ h
theorem fW (h1:Pu (ev C n) o m H (.ref p))(hp:H p=some (.inst cl fs))(hc:d5 cl=true)(hl:look x fs=none)(hb:sD (.inst cl) x=true)(h2:QH (ev C n) es m H vs)(h:C.aB cl x (.ref p::vs) H Q):(ev C (n+1)).E (.aB o x es) m H Q:=e7 h1 (jz hp hc hl ⟨hb,h2 _ h⟩)
theorem zh (h1:Pu (ev C n) a m H v)(h:F9 H v λn=>Q (.int n) H):(ev C (n+1)).E (.len a) m H Q:=h1 _ h
theorem JW (h1:Pu (ev C n) a m H v)(h:jI H v λxs=>xs.length<1000/\alloc H (.list xs.reverse) q):(ev C (n+1)).E (.rev a) m H q:=h1 _ h
theorem l9 (h1:Pu (ev C n) a m H v)(h:jI H v λxs=>xs.length<1000/\alloc H (.list xs) Q):(ev C (n+1)).E (.listOf a) m H Q:=h1 _ h
theorem lE (h1:Pu (ev C n) a m H v)(h:IA QE Q v H):(ev C (n+1)).E (.iZ a QE) m H Q:=h1 _ h
theorem kZ (h1:Pu r a m H v)(h:xp q v H):wW r (.over a) m H q:=h1 _ h
theorem aG:look x (put x v m)=some v:=by
 induction m with
 |nil=>exact if_pos rfl
 |cons p r ih=>
  by_cases h:p.1=x
  ·exact (congrArg (look x) (if_pos h:put x v (p::r)=(x,v)::r)).trans (if_pos rfl)
  ·exact (congrArg (look x) (if_neg h:put x v (p::r)=p::put x v r)).trans ((if_neg h).trans ih)
theorem EZ (h:y≠x):look y (put x v m)=look y m:=by
 induction m with
 |nil=>exact if_neg (Ne.symm h)
 |cons p r ih=>
  by_cases e:p.1=x
  ·exact (congrArg (look y) (if_pos e:put x v (p::r)=(x,v)::r)).trans ((if_neg (Ne.symm h)).trans (if_neg (e▸Ne.symm h):look y (p::r)=look y r).symm)
  ·refine (congrArg (look y) (if_neg e:put x v (p::r)=p::put x v r)).trans ?_
   by_cases e2:p.1=y
   ·exact (if_pos e2).trans (if_pos e2:look y (p::r)=some p.2).symm
   ·exact (if_neg e2).trans (ih.trans (if_neg e2:look y (p::r)=look y r).symm)
theorem lk (h:y≠x)(hm:look y m=some w):look y (put x v m)=some w:=(EZ h).trans hm
end
theorem dy {H:Hp}(h:a≠b)(o o':O):(H.upd a o).upd b o'=(H.upd b o').upd a o:=by
 funext c;unfold Hp.upd
 by_cases e:c=b
 ·subst e;simp only [if_true,if_neg (Ne.symm h)]
 ·simp only [if_neg e]
theorem vC (x:Nm)(v:V):∀fs,(put x v fs).length<=fs.length+1
 |[]=>Nat.le_refl _
 |(y,w)::r=>by
  by_cases h:y=x
  ·simp only [put,if_pos h,List.length_cons];exact Nat.le_succ _
  ·simp only [put,if_neg h,List.length_cons];exact Nat.succ_le_succ (vC x v r)
section
variable {H Hb:Hp}
variable {ow:Ow}
theorem gz (ha:attrOk cl x=true)(hb:fs.length<b)(h9:Nat.ble b 900=true)(h:(put x v fs).length<b+1->q (Hb.upd p (.inst cl (put x v fs)))):fJ (Hb.upd p (.inst cl fs)) (.ref p) x v q:=
 .mk _ _ _ (ak _ _ _) ha (Nat.lt_of_lt_of_le hb (Nat.le_of_ble_eq_true h9)) (by rw [jU];exact h (Nat.lt_succ_of_le (Nat.le_trans (vC x v fs) hb)))
theorem bH (he:Pu (ev C (n+1)) e m (Hb.upd p (.inst cl fs)) v)(hv:look y m=some (.ref p))(ha:attrOk cl x=true)(hb:fs.length<b)(h9:Nat.ble b 900=true)
  (h:(put x v fs).length<b+1->eK (ev C (n+2)) ss m (Hb.upd p (.inst cl (put x v fs))) F):eK (ev C (n+2)) (.ag (.var y) x e::ss) m (Hb.upd p (.inst cl fs)) F:=
 eW (he _ (dY hv (gz ha hb h9 h)))
theorem YB {d e:DM}{b:Bool}(h1:Dm H v d)(h2:Dm H u e)(h:decide (d=e)=b):Qj H v u b:=h▸.dm _ _ _ _ h1 h2
theorem eq_str {a b:Nm}:HP H (.str a) (.str b) (decide (a=b)):=.d _ _ _ (YB (.str a) (.str b) (decide_eq_decide.mpr ⟨λe=>by cases e;rfl,λe=>by rw [e]⟩))
theorem ne_str {a b:Nm}:Qj H (.str a) (.str b) (decide (a=b)):=YB (.str a) (.str b) (decide_eq_decide.mpr ⟨λe=>by cases e;rfl,λe=>by rw [e]⟩)
theorem eq_int {a b:Int}:HP H (.int a) (.int b) (decide (a=b)):=.d _ _ _ (YB (.int a) (.int b) (decide_eq_decide.mpr ⟨λe=>by cases e;rfl,λe=>by rw [e]⟩))
theorem JX (h:H a=some (.tuple xs))(hf:xs.all gM=true):Dm H (.ref a) (.t xs):=.tup _ _ h hf
theorem Td (h:H a=some (.tuple xs))(hf:xs.all gM=true)(h':H b=some (.tuple ys))(pz:ys.all gM=true):HP H (.ref a) (.ref b) (decide (xs=ys)):=
 .d _ _ _ (YB (.tup _ _ h hf) (.tup _ _ h' pz) (decide_eq_decide.mpr ⟨λe=>by cases e;rfl,λe=>by rw [e]⟩))
theorem bT {A B:Prop}(h:A):if true=true then A else B:=h
theorem aR {A B:Prop}(h:B):if false=true then A else B:=h
theorem Te {q:Bool->Prop}{b}(h:Qj H v u b)(hq:q (!b)):iz H .ne v u q:=.ne _ _ _ h hq
theorem JY {q:Bool->Prop}{b:Bool}(h:decide (a=c)=b)(hq:q b):iz H .eq (.str a) (.str c) q:=kr eq_str (h.symm▸hq)
theorem Wy {q:Bool->Prop}{b:Bool}(h:decide (a=c)=b)(hq:q (!b)):iz H .ne (.str a) (.str c) q:=Te ne_str (h.symm▸hq)
theorem lF (h:ow a=l)(h':ow b=l')(dw:l≠l'):a≠b:=λe=>dw (by simp only [<- h,<- h',e])
theorem JZ (R:Rel g ow w H)(hi:i<24)(hj:j<24)(e:g.pa i=g.pa j):i=j:=by
 have h1:=(R.proc i hi).o;replace h1:=((R.proc j hj).o)▸(e)▸h1;cases h1;rfl
theorem vD (R:Rel g ow w H)(hi:i<24)(ho:∀q,o=some q->q<24):F8 H (Bx g o) (.ref (g.pa i)) (decide (o=some i)):=by
 refine R.pw hi λZ Z Z Z Z Z A=>?_;induction o with
 |none=>exact .nx _ rfl
 |some q=>
  refine R.pw (ho q rfl) λZ Z Z Z Z Z B=>?_;refine vB B.h A.h ?_;by_cases e:q=i
  ·refine e▸?_;simp
  ·simp only [decide_eq_false (λe'=>e (Option.some.inj e'))]
   exact beq_eq_false_iff_ne.mpr (λe'=>e (JZ R (ho q rfl) hi e'))
theorem zj {f:Nat->Nat}(h:((List.range 24).map λi=>V.ref (f i))[k]?=some v):k<24/\v=.ref (f k):=by
 rw [List.getElem?_map] at h;rcases Nat.lt_or_ge k 24 with hk|hk
 ·rw [List.getElem?_range hk] at h
  exact ⟨hk,(Option.some.inj h).symm⟩
 ·rw [List.getElem?_eq_none (by simpa using hk)] at h;injection h
def qU (P:Pr):Pr:={P with st:=.bB,cF:=.none}
def kP:Pr:=⟨0,.ae,none,.none,0,none,none⟩
def uh:Ch->List V
 |.none=>[]
 |.child p=>[.str .aZ,.int p]
 |.lines=>[.str .rn]
def bL (xs:List V)(P:Pr):Bool:=decide (P.st=.aU)&&decide (uh P.cF=xs)
def fL (w:W)(xs:List V)(n:Nat):W:={w with ps:=λj=>if j<n/\bL xs (w.ps j)=true then qU (w.ps j) else w.ps j}
theorem DE:fL w xs 0=w:=by
 unfold fL;have:(λj=>if j<0/\bL xs (w.ps j)=true then qU (w.ps j) else w.ps j)=w.ps:=funext λj=>if_neg (λh=>Nat.not_lt_zero _ h.1);rw [this]
theorem BC:(fL w xs n).ps n=w.ps n:=if_neg (λh=>Nat.lt_irrefl _ h.1)
theorem GX (h:bL xs (w.ps n)=true):fL w xs (n+1)=(fL w xs n).aL n (qU (w.ps n)):=by
 delta fL W.aL;congr 1;funext j;simp only [];by_cases e:j=n
 ·subst e;rw [if_pos ⟨Nat.lt_succ_self _,h⟩,if_pos rfl]
 ·rw [if_neg e]
  have:j<n+1↔j<n:=⟨λh=>Nat.lt_of_le_of_ne (Nat.le_of_lt_succ h) e,λh=>Nat.lt_succ_of_lt h⟩;simp only [this]
theorem BD (h:bL xs (w.ps n)=false):fL w xs (n+1)=fL w xs n:=by
 unfold fL;congr 1;funext j;by_cases e:j=n
 ·subst e;rw [if_neg (λh'=>by rw [h] at h';injection h'.2),if_neg (λh'=>by rw [h] at h';injection h'.2)]
 ·have:j<n+1↔j<n:=⟨λh=>Nat.lt_of_le_of_ne (Nat.le_of_lt_succ h) e,λh=>Nat.lt_succ_of_lt h⟩
  simp only [this]
theorem vE (R:Rel g ow w H)(hi:i<24)(h:Q (.bool (!decide ((w.ps i).st=.ae))) H):(aj (k+1)).aB .bw .iW [.ref (g.pa i)] H Q:=by
 refine (R.sX hi) _ λcv nm tn rg fv jv A=>?_;exact bo rfl rfl rfl (fU (DD (bS rfl A.h rfl) (ig rfl) (Te ne_str (bA h))))
theorem oy (R:Rel g ow w H)(hi:i<24)(hQ:∀H',Rel g ow (w.aL i (qU (w.ps i))) H'->(∀b,ow b=.pipe->H' b=H b)->Q .none H'):(aj (k+1)).aB .aK .bB [.ref g.tab,.ref (g.pa i)] H Q:=by
 refine (R.sX hi) _ λcv nm tn rg fv jv A=>?_;refine bo rfl rfl rfl (cH (ig rfl) (bh rfl) (cW A.h rfl rfl rfl (cH cR (bh rfl) (cW (ak _ _ _) rfl rfl rfl ?_))));rw [jU];have R2:Rel g ow (w.aL i (qU (w.ps i))) (H.upd (g.pa i) (.inst .bw (JK g i (qU (w.ps i)) .none nm tn rg fv jv))):=R.jV hi (.mk A.ok.aJ nofun) rfl A.ew A.fl A.dq;have K:∀b,ow b=.pipe->(H.upd (g.pa i) (.inst .bw (JK g i (qU (w.ps i)) .none nm tn rg fv jv))) b=H b:=λb hb=>aY (lF hb (R.proc i hi).o (ay rfl)) _;refine R2.tQ λot o ht=>?_;refine cG (bD (bS rfl ht.h rfl) (bh rfl) (jW (vD R2 hi ht.run) ?_));split
 ·exact cH cR (bh rfl) (cW ht.h rfl rfl rfl (ar (ax (ar (cC (hQ _ (R2.sY (run:=none) ht.last ht.f (λZ=>ip rfl)) λb hb=>(aY (lF hb ot (ay rfl)) _).trans (K b hb)))))))
 ·exact ar (ax (ar (cC (hQ _ R2 K))))
theorem vF (R:Rel g ow w H)(hi:i<24)(hQ:∀az H' v,Rel g az w H'->Ext ow az->bQ az v (.tuple [.str .aZ,.int (w.ps i).aS])->Q v H'):(aj (k+1)).aB .aK .fu [.ref g.tab,.ref (g.pa i)] H Q:=by
 refine (R.sX hi) _ λcv nm tn rg fv jv A=>?_;refine bo rfl rfl rfl (fU (jB (ao ox (ao (bS rfl A.h rfl) aA)) (λa ha=>?_)));exact bA (hQ _ _ _ (R.dM ha) (aq R ha _) (.mk a rfl (aC _ _ _)))
theorem GY:∀(c:Ch),(uh c).all gM=true
 |.none=>rfl
 |.child _=>rfl
 |.lines=>rfl
theorem J0 (h:om ow cv c)(hc:c≠.none):bQ ow cv (.tuple (uh c)):=by
 induction c with
 |none=>exact absurd rfl hc
 |child p=>exact h
 |lines=>exact h
theorem zk (R:Rel g ow w H)(hc:bQ ow cv (.tuple xs))(hf:xs.all gM=true)(hQ:∀H' v,Rel g ow (fL w xs 24) H'->(∀b,ow b=.pipe->H' b=H b)->Q v H'):(aj (k+2)).aB .aK .jo [.ref g.tab,cv] H Q:=by
 refine R.tQ λZ run ht=>?_;refine bo rfl rfl rfl (DC cS (l6 (kZ (bS rfl ht.h rfl) (jA R.je.2 ?_))));refine fV (λk m H'=>(Rel g ow (fL w xs k) H'/\∀b,ow b=.pipe->H' b=H b)/\look .aa m=some (.ref g.tab)/\look .ck m=some cv/\∃c,look .gb m=some (.int c)) ?_ ?_ ⟨⟨by rw [DE];exact R,λZ Z=>rfl⟩,rfl,rfl,0,rfl⟩
 ·intro j v m H' K hv mQ hK
  refine tD mQ λdp h1 h2 FX=>?_;obtain ⟨R',N⟩:=dp;obtain ⟨c,h3⟩:=FX;obtain ⟨hj,rfl⟩:=zj hv;refine ⟨R'.je.2,?_⟩;refine R'.pw hj λcw nm tn rg fv jv A=>?_;have w8:=lk (x:=.ab) (v:=.ref (g.pa j)) (y:=.aa) (by decide) h1;have t8:=lk (x:=.ab) (v:=.ref (g.pa j)) (y:=.ck) (by decide) h2;have Nn:=lk (x:=.ab) (v:=.ref (g.pa j)) (y:=.gb) (by decide) h3;refine cG (vA (bD (bS aG A.h rfl) (ig rfl) (kr eq_str ?_)));refine R'.tQ λZ run Z4=>?_;rw [BC] at A ⊢;by_cases hs:(w.ps j).st=.aU
  ·refine (J0 A.cF (A.ok.cF hs)) _ λa Z1 ha=>?_;obtain rfl:=Z1
   refine hc _ λb Z2 hb=>?_;clear hc;obtain rfl:=Z2;rw [decide_eq_true hs];refine bT (bD (bS aG A.h rfl) (bh t8) (kr (Td (R'.aM _ _ _ ha) (GY _) (R'.aM _ _ _ hb) hf) ?_));by_cases hx:uh (w.ps j).cF=xs
   ·rw [decide_eq_true hx]
    have hy:bL xs (w.ps j)=true:=by unfold bL;simp only [decide_eq_true hs,decide_eq_true hx];rfl
    refine bT (bK (fW (bh w8) Z4.h rfl rfl rfl (ao (bh aG) aA) (oy R' hj λH2 R2 N2=>?_)));rw [BC,<- GX hy] at R2;exact Tc Nn cS (rQ (ar (ax (ar (hK _ _ ⟨⟨R2,λb hb=>(N2 b hb).trans (N b hb)⟩,lk (by decide) w8,lk (by decide) t8,_,aG⟩)))))
   ·rw [decide_eq_false hx]
    have hy:bL xs (w.ps j)=false:=by unfold bL;simp only [decide_eq_false hx,Bool.and_false]
    exact aR (ar (ax (ar (hK _ _ ⟨⟨by rw [BD hy];exact R',N⟩,w8,t8,c,Nn⟩))))
  ·rw [decide_eq_false hs]
   have hy:bL xs (w.ps j)=false:=by unfold bL;simp only [decide_eq_false hs,Bool.false_and]
   exact aR (aR (ar (ax (ar (hK _ _ ⟨⟨by rw [BD hy];exact R',N⟩,w8,t8,c,Nn⟩)))))
 ·intro m H' mc
  refine tD mc λdp h1 h2 FX=>?_;obtain ⟨R',N⟩:=dp;obtain ⟨c,h3⟩:=FX;exact ⟨R'.je.2,ax (b6 (bh h3) (bA (hQ _ _ R' N)))⟩
end
section
variable {w:W}
theorem Fb (R:Rel g ow w H)(hi:i<24)(hs:look .aa m=some (.ref g.tab))(hp:look .ab m=some (.ref (g.pa i)))(hQ:∀H',Rel g ow w H'->eK (ev C (n+6)) ss m H' F):
  eK (ev C (n+6)) (.ez (.cmp .si (.attr (.var .aa) .aF) (.var .ab)) [(.ag (.var .aa) .aF .none)] []::ss) m H F:=by
 refine R.tQ λZ o ht=>?_;refine cG (bD (bS hs ht.h rfl) (bh hp) (jW (vD R hi ht.run) ?_));split
 ·exact cH cR (bh hs) (cW ht.h rfl rfl rfl (ar (ax (hQ _ (R.sY (run:=none) ht.last ht.f (λZ=>ip rfl))))))
 ·exact ar (ax (hQ _ R))
theorem BE (R:Rel g ow w H)(hi:i<24)(hc:om ow cv c)(h0:c≠.none)(hQ:∀H',Rel g ow (w.aL i {w.ps i with st:=.aU,cF:=c}) H'->Q .none H'):(aj (k+1)).aB .aK .rq [.ref g.tab,.ref (g.pa i),cv] H Q:=by
 refine R.pw hi λZ5 nm tn rg fv jv A=>?_;refine bo rfl rfl rfl (cH (ig rfl) (bh rfl) (cW A.h rfl rfl rfl (cH (bh rfl) (bh rfl) (cW (ak _ _ _) rfl rfl rfl ?_))));rw [jU];have R2:Rel g ow (w.aL i {w.ps i with st:=.aU,cF:=c}) (H.upd (g.pa i) (.inst .bw (JK g i {w.ps i with st:=.aU,cF:=c} cv nm tn rg fv jv))):=R.jV hi (.mk A.ok.aJ (λZ=>h0)) hc A.ew A.fl A.dq;exact Fb R2 hi rfl rfl λH' R'=>ar (cC (hQ _ R'))
def DF (fs:NV)(rg:Nat):NV:=
 put .oW (.int 0) (put .gL .none (put .rt .none (put .kg .none (put .iX (.int 0) (put .lM .none (put .bx (.int 0) (put .lN (.bool false) (put .ck .none
  (put .mz (.str .mv) (put .rh .none (put .bX .none (put .CV (.int 0) (put .ft (.ref rg) (put .jT .none (put .cP .none (put .dP (.str .ae) (put .cY (.int 0) fs)))))))))))))))))
theorem BF {q:VP}{x:V}(h:H a=some (.list [x]))(h0:0<=z)(h1:z<1000)(hq:alloc H (.list (List.replicate z.toNat x)) q):wU H .mul (.ref a) (.int z) q:=.rep _ _ _ h h0 h1 hq
theorem xS (hp:H p=some (.inst .bw fs))(hl:fs.length<100)
  (hQ:∀a1 a2,H a1=none->(H.upd a1 (.list [.int 0])) a2=none->Q .none (((H.upd a1 (.list [.int 0])).upd a2 (.list (List.replicate 32 (.int 0)))).upd p (.inst .bw (DF fs a2)))):
  (aj (k+1)).aB .bw .mw [.ref p] H Q:=by
 refine bo rfl rfl rfl (cH cS (bh rfl) (cW hp rfl ?_ rfl ?_))
 ·exact Nat.ble_eq_true_of_le (Nat.lt_trans hl (by decide))
 refine bH (λZ h=>tR rfl h) rfl rfl (Nat.lt_succ_of_le (Nat.le_trans (vC _ _ _) hl)) rfl λhb=>?_;refine bH (λZ h=>fE h) rfl rfl hb rfl λhb=>bH (λZ h=>fE h) rfl rfl hb rfl λhb=>?_;refine eW (p9 (gG (ao cS aA) (λa1 h1=>da (BF (ak _ _ _) (by decide) (by decide) λa2 h2=>dY rfl ?_))));have e1:a1≠p:=λe=>by rw [e,ak] at h1;injection h1
 have e2:a2≠p:=λe=>by rw [e,aY e1.symm,ak] at h2;injection h2
 rw [dy e1.symm,dy e2.symm];rw [dy e1.symm,aY e2] at h2;rw [aY e1] at h1;refine gz rfl hb rfl λhb=>bH (λZ h=>da h) rfl rfl hb rfl λhb=>bH (λZ h=>fE h) rfl rfl hb rfl λhb=>bH (λZ h=>fE h) rfl rfl hb rfl λhb=>?_;refine bH (λZ h=>BB h) rfl rfl hb rfl λhb=>bH (λZ h=>fE h) rfl rfl hb rfl λhb=>bH (λZ h=>Ta h) rfl rfl hb rfl λhb=>bH (λZ h=>da h) rfl rfl hb rfl λhb=>?_;refine bH (λZ h=>fE h) rfl rfl hb rfl λhb=>bH (λZ h=>da h) rfl rfl hb rfl λhb=>bH (λZ h=>fE h) rfl rfl hb rfl λhb=>bH (λZ h=>fE h) rfl rfl hb rfl λhb=>?_;exact bH (λZ h=>fE h) rfl rfl hb rfl λhb=>bH (λZ h=>da h) rfl rfl hb rfl λhb=>ar (cC (hQ a1 a2 h1 h2))
theorem Om:DF (JK g i P cv nm tn rg fv jv) a=JK g i kP .none (.str .mv) 0 a .none .none:=by kernel_rfl
theorem J2 (R:Rel g ow w H)(h:H a=none):Rel g (ow.set a (.ew i)) w (H.upd a (.list (List.replicate 32 (.int 0))))/\fg (ow.set a (.ew i)) (H.upd a (.list (List.replicate 32 (.int 0)))) i a:=
 ⟨R.new h (λZ Z=>ay rfl),(.mk (aC _ _ _) (.mk _ (ak _ _ _) rfl))⟩
theorem BH (R:Rel g ow w H)(hi:i<24)(hQ:∀az H',Rel g az (w.aL i kP) H'->Ext ow az->Q .none H'):(aj (k+1)).aB .bw .mw [.ref (g.pa i)] H Q:=by
 refine R.pw hi λZ5 nm tn rg fv jv A=>?_;refine xS A.h (Nat.le_of_ble_eq_true rfl) λa1 a2 h1 h2=>?_;have R1:=R.dM h1 (m:=false) (o:=.list [.int 0]);have ⟨R2,rk⟩:=J2 (i:=i) R1 h2;simp only [Om];exact hQ _ _ (R2.jV hi (P:=kP) (cv:=.none) (nm:=.str .mv) (tn:=0) (rg:=a2) (fv:=.none) (jv:=.none) (.mk (λZ=>ip rfl) nofun) rfl rk rfl rfl) ((aq R h1 _).trans (aq R1 h2 _))
theorem Oo (R:Rel g ow w H)(hf:∃j,j<24/\(w.ps j).st=.ae) (hQ:∀j,j<24->(w.ps j).st=.ae->(∀j',j'<j->(w.ps j').st≠.ae)->Q (.ref (g.pa j)) H):(aj (k+1)).aB .aK .jQ [.ref g.tab] H Q:=by
 refine R.tQ λZ run ht=>?_;refine bo rfl rfl rfl (l6 (kZ (bS rfl ht.h rfl) (jA R.je.2 ?_)));refine fV (λk m H'=>H'=H/\∀j,j<k->(w.ps j).st≠.ae) ?_ ?_ ⟨rfl,(λZ h=>absurd h (Nat.not_lt_zero Z))⟩
 ·intro j v m H' K hv mQ hK
  obtain ⟨e,k0⟩:=mQ;subst e;obtain ⟨hj,rfl⟩:=zj hv;refine (R.sX hj) _ λcw nm tn rg fv jv A=>?_;refine ⟨R.je.2,?_⟩;refine cG (bD (bS aG A.h rfl) (ig rfl) (kr eq_str ?_));by_cases hs:(w.ps j).st=.ae
  ·rw [decide_eq_true hs]
   exact bT (b6 (bh aG) (k_ret (k_ret (bA (hQ j hj hs k0)))))
  ·rw [decide_eq_false hs]
   refine aR (ar (ax (ar (hK _ _ ⟨rfl,λj' Oq=>?_⟩))));rcases Nat.lt_succ_iff_lt_or_eq.mp Oq with h|h
   ·exact k0 j' h
   ·rw [h];exact hs
 ·intro m H' mc
  obtain ⟨e,h⟩:=mc;refine aQ hf λj h1 h2=>?_;exact absurd h2 (h j (by simpa [Src.items] using h1))
noncomputable def QI (aS:Int)(st:Nm):Pr:=⟨aS,st,none,.none,0,none,none⟩
abbrev mR (aS:Int):Pr:=QI aS .yx
theorem J3:F8 H (Bx g o) .none (decide (o=none)):=Option.casesOn o .nn λZ=>.xn _ rfl
theorem GZ:{w.aL i P with next:=a,fst:=f,last:=l}=({w with next:=a,fst:=f,last:=l}:W).aL i P:=rfl
theorem J4 (R:Rel g ow w H)(hf:∃j,j<24/\(w.ps j).st=.ae)
  (hQ:∀j az H',j<24->(w.ps j).st=.ae->(∀j',j'<j->(w.ps j').st≠.ae)->Rel g az ({w with next:=w.next+1,fst:=some (w.fst.getD j)}.aL j (mR w.next)) H'->Ext ow az->Q (.ref (g.pa j)) H'):
  (aj (k+2)).aB .aK .Ay [.ref g.tab,nm] H Q:=by
 refine R.tQ λZ adY ht0=>?_;refine bo rfl rfl rfl (dT (fW (bh rfl) ht0.h rfl rfl rfl aA (Oo R hf λj hj hu rR=>?_)));refine R.pw hj λZ Z Z Z Z Z A0=>?_;refine bK (fW (bh rfl) A0.h rfl rfl rfl aA (BH R hj λiR H1 R1 E1=>?_));refine R1.tQ λZ run ht=>?_;refine R1.pw hj λcv G4 tn rg fv jv A=>?_;rw [ah] at A;have ne:g.tab≠g.pa j:=lF R1.tab.o (R1.proc j hj).o (ay rfl);refine cH (bS rfl ht.h rfl) (bh rfl) (cW A.h rfl rfl rfl ?_);have R2:Rel g iR (w.aL j (QI w.next .ae)) (H1.upd (g.pa j) (.inst .bw (JK g j (QI w.next .ae) cv G4 tn rg fv jv))):=by
  have:=R1.jV hj (P:=(QI w.next .ae)) (.mk (λZ=>ip rfl) nofun) A.cF A.ew A.fl A.dq (nm:=G4) (tn:=tn)
  rwa [dn] at this
 refine R2.tQ λZ run ht=>?_;refine l5 (dY rfl (iH ht.h rfl (da (rQ (cW ht.h rfl rfl rfl ?_)))));have R3:=R2.sY (nx:=w.next+1) ht.last ht.f ht.run;refine R3.pw hj λcv UJ tn rg fv jv A=>?_;rw [show ({(w.aL j (QI w.next .ae)) with next:=w.next+1,fst:=(w.aL j (QI w.next .ae)).fst,last:=(w.aL j (QI w.next .ae)).last}:W).ps j=(QI w.next .ae) from ah] at A;refine cH (ig rfl) (bh rfl) (cW A.h rfl rfl rfl (cH (bh rfl) (bh rfl) (cW (ak _ _ _) rfl rfl rfl ?_)));rw [jU];have R4:=R3.jV hj (P:=mR w.next) (.mk (λZ=>ip rfl) nofun) A.cF A.ew A.fl A.dq (nm:=nm) (tn:=tn);replace R4:=(dn)▸(GZ)▸R4;refine R4.tQ λZ run ht=>?_;refine cG (bD (bS rfl ht.h rfl) cR (jW J3 ?_));refine (?_:if decide (w.fst=none)=true then _ else _);induction J5:w.fst with
 |none=>
  rw [decide_eq_true rfl];refine bT (cH (bh rfl) (bh rfl) (cW ht.h rfl rfl rfl (ar (ax (b6 (bh rfl) (bA (hQ j _ _ hj hu rR ?_ E1)))))));rw [J5];exact R4.sY (f:=some j) ht.last (λq e=>by cases e;exact hj) ht.run
 |some f0=>
  rw [decide_eq_false (ip rfl)];refine aR (ar (ax (b6 (bh rfl) (bA (hQ j _ _ hj hu rR ?_ E1)))));rw [J5];have:({w with next:=w.next+1,fst:=some f0}:W)={w with next:=w.next+1}:=by rw [<- J5]
  refine (?_:Rel g iR (({w with next:=w.next+1,fst:=some f0}:W).aL j (mR w.next)) _);simp only [this];exact R4
end
def eB (w:W)(i j:Nat):Bool:=!decide ((w.ps j).st=.ae)&&decide ((w.ps j).aJ=some i)
def fR (w:W)(i:Nat):List Nat:=(List.range 24).filter (eB w i)
noncomputable def G5 (g:Ad)(j:Nat):V:=.ref (g.pa j)
theorem eq_nil (h:H a=some (.list xs))(h':H b=some (.list [])):HP H (.ref a) (.ref b) xs.isEmpty:=
 List.casesOn (motive:=λxs=>H a=some (.list xs)->HP H (.ref a) (.ref b) xs.isEmpty) xs (λh=>.d _ _ _ (.il _ _ [] [] h h')) (λZ Z h=>.len _ _ _ _ h h' Nat.noConfusion) h
section
variable {n k:Nat}{e cond:E}
theorem Wz {q:Bool->Prop}{b:Bool}(h:H a=some (.list xs))(h':H c=some (.list []))(e:xs.isEmpty=b)(hq:q b):iz H .eq (.ref a) (.ref c) q:=kr (eq_nil h h') (e.symm▸hq)
theorem tS (R:Rel g ow w H)(hs:look .aa m=some (.ref g.tab)){p:Nat->Bool}(hc:∀j,j<24->∀QT:BP,QT (p j) H->(ev C (n+3)).T cond (put x (.ref (g.pa j)) m) H QT)
  (hQ:∀az H' v,Rel g az w H'->Ext ow az->bQ az v (.list (((List.range 24).filter p).map (G5 g)))->Q v H'):(ev C (n+4)).E (.comp (.var x) x (.over (.attr (.var .aa) .fe)) (some cond)) m H Q:=by
 refine R.tQ λZ run ht=>?_;refine zf (kZ (bS hs ht.h rfl) (jA R.je.2 ⟨by simp [Src.items],?_⟩));refine l8 (λk acc H'=>H'=H/\acc=((List.range k).filter p).map (G5 g)) ?_ ?_ ⟨rfl,rfl⟩
 ·intro j v acc H' K hv mQ hK
  obtain ⟨e,ha⟩:=mQ;subst e;obtain ⟨hj,rfl⟩:=zj hv;refine ⟨R.je.2,hc j hj _ ?_⟩;have hr:(List.range (j+1)).filter p=(List.range j).filter p++[j].filter p:=by simp only [List.range_succ,List.filter_append]
  induction hp:p j with
  |true=>exact bT (dY aG (hK _ _ ⟨rfl,by simp only [hr,List.filter_cons_of_pos hp,List.map_append,ha];rfl⟩))
  |false=>exact aR (hK _ _ ⟨rfl,by rw [hr,List.filter_cons_of_neg (by rw [hp];exact IG rfl),List.map_append,ha,List.filter_nil,List.map_nil,List.append_nil]⟩)
 ·intro acc H' mc
  obtain ⟨e,ha⟩:=mc;subst e;refine ⟨R.je.2,λa h=>?_⟩;rw [ha];exact hQ _ _ _ (R.dM h (m:=false)) (aq R h _) (.mk a rfl (aC _ _ _))
theorem oz (R:Rel g ow w H)(hi:i<24)(hQ:∀az H' v,Rel g az w H'->Ext ow az->bQ az v (.list ((fR w i).map (G5 g)))->Q v H'):(aj (k+2)).aB .aK .dU [.ref g.tab,.ref (g.pa i)] H Q:=by
 refine bo rfl rfl rfl (fU (tS R rfl (p:=eB w i) (λj hj QT hq=>?_) λaz H' v R' E hv=>bA (hQ _ _ _ R' E hv)));refine R.pw hj λZ Z Z Z Z Z A=>?_;refine vA (qG (fW (bh rfl) A.h rfl rfl rfl aA (vE R hj (bq ?_))));unfold eB at hq;induction hs:decide ((w.ps j).st=.ae) with
 |true=>rw [hs] at hq;exact aR hq
 |false=>rw [hs] at hq;exact bT (bD (bS rfl A.h rfl) (bh rfl) (jW (vD R hi A.ok.aJ) hq))
theorem Tf (R:Rel g ow w H)(hQ:∀az H' v,Rel g az w H'->Ext ow az->bQ az v (.list (((List.range 24).filter λj=>!decide ((w.ps j).st=.ae)).map (G5 g)))->Q v H'):(aj (k+2)).aB .aK .Aw [.ref g.tab] H Q:=by
 refine bo rfl rfl rfl (fU (tS R rfl (λj hj QT hq=>?_) λaz H' v R' E hv=>bA (hQ _ _ _ R' E hv)));refine R.pw hj λZ Z Z Z Z Z A=>?_;exact qG (fW (bh rfl) A.h rfl rfl rfl aA (vE R hj (bq hq)))
theorem Ot (R:Rel g ow w H)(hi:i<24)(h1:(w.ps i).st≠.ae)(h2:(w.ps i).aS=aS)(hu:∀j,j<24->(w.ps j).st≠.ae->(w.ps j).aS=aS->j=i) (hQ:Q (.ref (g.pa i)) H):
  (aj (k+2)).aB .aK .yv [.ref g.tab,.int aS] H Q:=by
 refine R.tQ λZ run ht=>?_;refine bo rfl rfl rfl (l6 (kZ (bS rfl ht.h rfl) (jA R.je.2 ?_)));refine fV (λk m H'=>H'=H/\k<=i/\look .cY m=some (.int aS)) ?_ ?_ ⟨rfl,Nat.zero_le _,rfl⟩
 ·intro j v m H' K hv mQ hK
  refine gC mQ λe hk hp=>?_;subst e;obtain ⟨hj,rfl⟩:=zj hv;refine (R.sX hj) _ λcw nm tn rg fv jv A=>?_;refine ⟨R.je.2,?_⟩;have Cu:=lk (x:=.ab) (v:=.ref (g.pa j)) (y:=.cY) (by decide) hp;refine cG (vA (qG (fW (bh aG) A.h rfl rfl rfl aA (vE R hj (bq ?_)))));by_cases hs:(w.ps j).st=.ae
  ·rw [decide_eq_true hs]
   refine aR (aR (ar (ax (ar (hK _ _ ⟨rfl,Nat.lt_of_le_of_ne hk (λe=>h1 (e▸hs)),Cu⟩)))))
  ·rw [decide_eq_false hs]
   refine bT (bD (bS aG A.h rfl) (bh Cu) (kr eq_int ?_));by_cases hq:(w.ps j).aS=aS
   ·have e:=hu j hj hs hq
    subst e;rw [decide_eq_true hq];exact bT (b6 (bh aG) (k_ret (k_ret (bA hQ))))
   ·refine (decide_eq_false hq)▸?_
    exact aR (ar (ax (ar (hK _ _ ⟨rfl,Nat.lt_of_le_of_ne hk (λe=>hq (e▸h2)),Cu⟩))))
 ·intro m H' mc
  refine gC mc λe hk Z=>?_;exact absurd (Nat.lt_of_le_of_lt (by simpa [Src.items] using hk) hi) (Nat.lt_irrefl _)
theorem Fc (R:Rel g ow w H)(hi:i<24)(hQ:∀az H' v,Rel g az (w.aL i kP) H'->Ext ow az->bQ az v (.tuple [.int (w.ps i).aS,.int (w.ps i).status])->Q v H'):(aj (k+2)).aB .aK .sq [.ref g.tab,.ref (g.pa i)] H Q:=by
 refine R.pw hi λcw nm tn rg fv jv A=>?_;refine bo rfl rfl rfl (dT (jB (ao (bS rfl A.h rfl) (ao (bS rfl A.h rfl) aA)) (λa h=>?_)));have R1:=R.dM h (m:=false) (o:=.tuple [.int (w.ps i).aS,.int (w.ps i).status]);have E1:=aq R h (.k false (.tuple [.int (w.ps i).aS,.int (w.ps i).status]));refine R1.pw hi λcw nm tn rg fv jv A=>?_;refine cG (bD (bS rfl A.h rfl) cR (ou .nn (aR (ar (ax ?_)))));exact bK (fW (bh rfl) A.h rfl rfl rfl aA (BH R1 hi λoA H2 R2 E2=>b6 (bh rfl) (bA (hQ _ _ _ R2 (E1.trans E2) (.mk a rfl (E2 _ _ _ (aC _ _ _)))))))
theorem DG {l:List Nat}(h:(l.map f)[k]?=some v):∃j,l[k]?=some j/\v=f j:=by
 replace h:=(List.getElem?_map)▸h;induction hl:l[k]? with
 |none=>rw [hl] at h;injection h
 |some j=>rw [hl] at h;exact ⟨j,rfl,(Option.some.inj h).symm⟩
theorem jX {l:List α}{x:α}(h:l[k]?=some x):l.take (k+1)=l.take k++[x]:=by
 simp only [List.take_add_one,h];rfl
theorem kx (h:j∈fR w i):j<24/\eB w i j=true:=by
 have:=List.mem_filter.mp h;exact ⟨List.mem_range.mp this.1,this.2⟩
theorem qH (h:j<24)(h':eB w i j=true):j∈fR w i:=List.mem_filter.mpr ⟨List.mem_range.mpr h,h'⟩
theorem Ou (R:Rel g ow w H)(hi:i<24)(hc:∃j,j<24/\eB w i j=true)
  (hR:∀j az H' v,j<24->eB w i j=true->(w.ps j).st=.bc->Rel g az (w.aL j kP) H'->Ext ow az->bQ az v (.tuple [.int (w.ps j).aS,.int (w.ps j).status])->Q v H')
  (hS:∀az H',(∀j,j<24->eB w i j=true->(w.ps j).st≠.bc)->Rel g az (w.aL i {w.ps i with st:=.aU,cF:=.child (w.ps i).aS}) H'->Ext ow az->Q .none H'):
  (aj (k+3)).aB .aK .fw [.ref g.tab,.ref (g.pa i)] H Q:=by
 refine R.tQ λZ run ht=>?_;refine bo rfl rfl rfl (dT (fW (bh rfl) ht.h rfl rfl rfl (ao (bh rfl) aA) (oz R hi λiR H1 v R1 E1 vG=>?_)));refine vG _ λa q32 hv=>?_;clear vG;obtain rfl:=q32;have hl:=R1.aM _ _ _ hv;refine l6 (kZ (bh rfl) (jA hl ?_));refine fV (λk m H'=>H'=H1/\(∀j,j∈(fR w i).take k->(w.ps j).st≠.bc)/\look .aa m=some (.ref g.tab)/\look .ab m=some (.ref (g.pa i))/\look .dU m=some (.ref a)) ?_ ?_ ⟨rfl,(λZ h=>absurd h List.not_mem_nil),rfl,rfl,rfl⟩
 ·intro l v m H' K GF mQ hK
  refine HZ mQ λe hz h1 h2 h3=>?_;subst e;refine ⟨hl,?_⟩;refine aQ (DG GF) λj k0 dp=>?_;subst dp;obtain ⟨hj,Aa⟩:=kx (List.mem_of_getElem? k0);refine R1.pw hj λcw nm tn rg fv jv A=>?_;refine R1.tQ λZ run ht=>?_;have w8:=lk (x:=.aZ) (v:=G5 g j) (y:=.aa) (by decide) h1;have t8:=lk (x:=.aZ) (v:=G5 g j) (y:=.ab) (by decide) h2;have Nn:=lk (x:=.aZ) (v:=G5 g j) (y:=.dU) (by decide) h3;refine cG (bD (bS aG A.h rfl) (ig rfl) (kr eq_str ?_));by_cases hs:(w.ps j).st=.bc
  ·rw [decide_eq_true hs]
   exact bT (fU (fW (bh w8) ht.h rfl rfl rfl (ao (bh aG) aA) (Fc R1 hj λoA H2 v R2 E2 hv=>k_ret (k_ret (bA (hR j _ _ _ hj Aa hs R2 (E1.trans E2) hv))))))
  ·rw [decide_eq_false hs]
   refine aR (ar (ax (ar (hK _ _ ⟨rfl,λj' Oq=>?_,w8,t8,Nn⟩))));rw [jX k0] at Oq;rcases List.mem_append.mp Oq with h|h
   ·exact hz j' h
   ·rw [List.mem_singleton.mp h];exact hs
 ·intro m H' mc
  refine HZ mc λe hz h1 h2 h3=>?_;subst e;refine ⟨hl,ax ?_⟩;have hz':∀j,j<24->eB w i j=true->(w.ps j).st≠.bc:=λj hj hc=>hz j (by simp only [Src.items,List.length_map,List.take_length];exact qH hj hc);have dw:((fR w i).map (G5 g)).isEmpty=false:=by
   refine aQ hc λj hj hc=>?_;have:=qH hj hc;induction hl:fR w i with
   |nil=>replace this:=(hl)▸this;contradiction
   |cons=>rfl
  refine cG (JT (iJ (dY h3 (gG aA (λb hb=>kr (eq_nil ((aY (λe=>by rw [<- e,hl] at hb;injection hb) _).trans hl) (ak _ _ _)) ?_)))));have R2:=R1.dM hb (m:=false) (o:=.list []);have E2:=aq R1 hb (.k false (.list []));refine (dw)▸?_;refine R2.pw hi λcw nm tn rg fv jv A=>?_;refine aR (JU (gj h2 A.h rfl (bq (aR (ar (ax ?_))))));refine R2.tQ λZ run ht=>?_;refine bK (e7 (bh h1) (jz ht.h rfl rfl ⟨rfl,aT (dY h2 (aT (fW (bh h1) ht.h rfl rfl rfl (ao (bh h2) aA) (vF R2 hi λCD H3 v R3 E3 hv=>cA (mP (BE R3 hi (c:=.child (w.ps i).aS) hv (S7 rfl) λH4 R4=>?_))))))⟩));exact b6 cR (bA (hS _ _ hz' R4 ((E1.trans E2).trans E3)))
end
noncomputable def w9 (P:Pr)(o:Option Nat):Pr:={P with aJ:=o}
noncomputable def qd (P:Pr)(s:Nm):Pr:={P with st:=s}
def adopt (w:W)(j:Nat):W:=
 if (w.ps j).st=.bc then fL (w.aL j (w9 (w.ps j) (some 0))) (uh (.child ((w.aL j (w9 (w.ps j) (some 0))).ps 0).aS)) 24 else w.aL j (w9 (w.ps j) (some 0))
def cb (w:W)(l:List Nat):W:=l.foldl adopt w
def qe (P:Pr)(s:Int):Pr:={P with st:=.bc,cF:=.none,status:=s}
def eH (w:W)(i:Nat)(s:Int):W:=(cb w (fR w i)).aL i (qe ((cb w (fR w i)).ps i) s)
def fh (w:W)(i:Nat)(s:Int):W:=match ((cb w (fR w i)).ps i).aJ with
 |none=>eH w i s
 |some p=>fL (eH w i s) (uh (.child ((eH w i s).ps p).aS)) 24
theorem G6:(adopt w j).fst=w.fst:=by unfold adopt;split<;>rfl
theorem vH {l:List Nat}:∀{w:W},(cb w l).fst=w.fst:=by
 induction l with
 |nil=>intro w;rfl
 |cons j l ih=>intro w;exact (ih (w:=adopt w j)).trans G6
theorem BI:cb w (l++[j])=adopt (cb w l) j:=by unfold cb;rw [List.foldl_append];rfl
section
variable {n k:Nat}
theorem BJ (R:Rel g ow w H)(hi:i<24)(hs:look .aa m=some (.ref g.tab))(he:Pu (ev (aj (k+2)) (n+2)) e m H (.ref (g.pa i)))
  (hQ:∀az H',Rel g az (fL w (uh (.child (w.ps i).aS)) 24) H'->Ext ow az->eK (ev (aj (k+2)) (n+5)) ss m H' F):
  eK (ev (aj (k+2)) (n+5)) (.expr (.aB (.var .aa) .jo [(.aB (.var .aa) .fu [e])])::ss) m H F:=by
 refine R.tQ λZ run ht=>?_;refine bK (e7 (bh hs) (jz ht.h rfl rfl ⟨rfl,aT (e7 (bh hs) (jz ht.h rfl rfl ⟨rfl,aT (he _ (cA (mP (vF R hi λiR H1 v R1 E1 hv=>cA (mP (zk R1 hv rfl λH2 v2 R2 Z=>hQ _ _ R2 E1))))))⟩))⟩))
theorem BK (R:Rel g ow w H)(hi:i<24)(h0:w.fst=some 0)(hQ:∀az H',Rel g az (cb w (fR w i)) H'->Ext ow az->Q .none H'):(aj (k+3)).aB .aK .mC [.ref g.tab,.ref (g.pa i)] H Q:=by
 refine R.tQ λZ run ht=>?_;refine bo rfl rfl rfl (l6 (vz (fW (bh rfl) ht.h rfl rfl rfl (ao (bh rfl) aA) (oz R hi λiR H1 v R1 E1 vG=>?_))));refine vG _ λa q31 hv=>?_;clear vG;obtain rfl:=q31;refine jA (R1.aM _ _ _ hv) ?_;refine fV (λk m H'=>∃az,Rel g az (cb w ((fR w i).take k)) H'/\Ext iR az/\look .aa m=some (.ref g.tab)) ?_ ?_ ⟨iR,R1,.rfl',rfl⟩
 ·intro l v m H' K GF mQ hK
  refine tE mQ λaz R' E' h1=>?_;refine ⟨R'.aM _ _ _ (E' _ _ _ hv),?_⟩;refine aQ (DG GF) λj k0 dp=>?_;subst dp;obtain ⟨hj,Aa⟩:=kx (List.mem_of_getElem? k0);replace hK:=(jX k0)▸hK;refine R'.pw hj λcw nm tn rg fv jv A=>?_;refine R'.tQ λZ run ht=>?_;simp only [vH,h0] at ht;have w8:=lk (x:=.aZ) (v:=G5 g j) (y:=.aa) (by decide) h1;refine cH (bS w8 ht.h rfl) (bh aG) (cW A.h rfl rfl rfl ?_);have R2:=R'.jV hj (P:=(w9 ((cb w ((fR w i).take l)).ps j) (some 0))) (.mk (λq e=>by cases e;decide) A.ok.cF) A.cF A.ew A.fl A.dq (nm:=nm) (tn:=tn);refine R2.pw hj λcw nm tn rg fv jv A=>?_;rw [ah] at A;refine cG (bD (bS aG A.h rfl) (ig rfl) (kr eq_str ?_));have ad:cb w ((fR w i).take l++[j])=_:=BI;unfold adopt at ad;by_cases hs:((cb w ((fR w i).take l)).ps j).st=.bc
  ·rw [if_pos hs] at ad
   rw [ad] at hK;show if decide (((cb w ((fR w i).take l)).ps j).st=Nm.bc)=true then _ else _
   rw [decide_eq_true hs];refine R2.tQ λZ run ht=>?_;simp only [show ((cb w ((fR w i).take l)).aL j (w9 ((cb w ((fR w i).take l)).ps j) (some 0))).fst=some 0 from vH.trans h0] at ht;exact bT (BJ R2 (i:=0) (by decide) w8 (λQ hq=>gj w8 ht.h rfl hq) λCD H3 R3 E3=>ar (ax (ar (hK _ _ ⟨CD,R3,E'.trans E3,w8⟩))))
  ·rw [if_neg hs] at ad
   rw [ad] at hK;show if decide (((cb w ((fR w i).take l)).ps j).st=Nm.bc)=true then _ else _
   rw [decide_eq_false hs];exact aR (ar (ax (ar (hK _ _ ⟨az,R2,E',w8⟩))))
 ·intro m H' mc
  refine tE mc λaz R' E' h1=>?_;refine ⟨R'.aM _ _ _ (E' _ _ _ hv),ax (ar (cC (hQ _ _ ?_ (E1.trans E'))))⟩;simp only [Src.items,List.length_map,List.take_length] at R';exact R'
theorem Ov (R:Rel g ow w H)(hi:i<24)(dw:i≠0)(h0:w.fst=some 0){s:Int}(hQ:∀az H',Rel g az (fh w i s) H'->Ext ow az->Q .none H'):(aj (k+4)).aB .aK .iw [.ref g.tab,.ref (g.pa i),.int s] H Q:=by
 refine R.tQ λZ run ht=>?_;rw [h0] at ht;refine bo rfl rfl rfl (cG (bD (bh rfl) (bS rfl ht.h rfl) (jW (vD R (i:=0) (o:=some i) (by decide) (λq e=>by cases e;exact hi)) ?_)));rw [decide_eq_false (λe=>dw (Option.some.inj e))];refine aR (ar (ax (bK (fW (bh rfl) ht.h rfl rfl rfl (ao (bh rfl) aA) (BK R hi h0 λiR H1 R1 E1=>?_)))));refine R1.pw hi λcw nm tn rg fv jv A=>?_;refine cH (ig rfl) (bh rfl) (cW A.h rfl rfl rfl (cH cR (bh rfl) (cW (ak _ _ _) rfl rfl rfl (cH (bh rfl) (bh rfl) (cW (ak _ _ _) rfl rfl rfl ?_)))));rw [jU,jU];have R2:Rel g iR (eH w i s) _:=R1.jV hi (P:=qe ((cb w (fR w i)).ps i) s) (.mk A.ok.aJ nofun) rfl A.ew A.fl A.dq (nm:=nm) (tn:=tn);refine Fb R2 hi rfl rfl λH3 R3=>?_;refine R3.pw hi λcw nm tn rg fv jv A=>?_;have e:(eH w i s).ps i=qe ((cb w (fR w i)).ps i) s:=ah;replace A:=(e)▸A;refine cG (bD (bS rfl A.h rfl) cR (ou J3 ?_));unfold fh at hQ;refine (?_:if (!decide (((cb w (fR w i)).ps i).aJ=none))=true then _ else _);have hp:=A.ok.aJ;change ∀q,((cb w (fR w i)).ps i).aJ=some q->q<24 at hp;have hA:∃fs',H3 (g.pa i)=some (.inst .bw fs')/\look .cP fs'=some (Bx g ((cb w (fR w i)).ps i).aJ):=⟨_,A.h,rfl⟩;induction ky:((cb w (fR w i)).ps i).aJ with
 |none=>
  replace hQ:=(ky)▸hQ;exact aR (ar (ax (ar (cC (hQ _ _ R3 E1)))))
 |some p=>
  rw [ky] at hQ hp hA;refine aQ hA λfs' hf hl=>?_;exact bT (BJ R3 (i:=p) (hp p rfl) rfl (λQ hq=>gj rfl hf hl hq) λCD H3 R3 E3=>ar (ax (ar (cC (hQ _ _ R3 (E1.trans E3))))))
theorem WA {z z':Int}(h:0<z')(hq:Q (.int (z % z')) H):wU H .mod (.int z) (.int z') Q:=.mod _ _ h hq
theorem pB {lo n:Int}(h:((upTo lo n).map V.int)[k]?=some v):v=.int (lo+k)/\(k:Int)<n - lo:=by
 unfold upTo at h;rw [List.map_map,List.getElem?_map] at h;rcases Nat.lt_or_ge k (n - lo).toNat with hk|hk
 ·rw [List.getElem?_range hk] at h
  exact ⟨(Option.some.inj h).symm,by omega⟩
 ·rw [List.getElem?_eq_none (by simpa using hk)] at h;injection h
noncomputable def nB (l x:Nat):Nat:=(x+23 - l) % 24
theorem Ox:∀l,l<24->∀x,x<24->nB l x<24/\(l+(1+nB l x)) % 24=x:=by decide+kernel
theorem vI {l x:Nat}(hl:l<24)(hx:x<24):nB l x<24/\(l+(1+nB l x)) % 24=x:=Ox l hl x hx
theorem Oy:∀l,l<24->∀k,k<24->nB l ((l+(1+k)) % 24)=k:=by decide+kernel
theorem Tg {l k:Nat}(hl:l<24)(hk:k<24):nB l ((l+(1+k)) % 24)=k:=Oy l hl k hk
theorem Oz {l k:Nat}:((l:Int)+(1+k)) % 24=((l+(1+k)) % 24:Nat):=rfl
def aX (w:W)(j:Nat):W:=({w with last:=j}:W).aL j (qd (w.ps j) .aF)
theorem OA (R:Rel g ow w H)(hQ:∀j H',j<24->(w.ps j).st=.bB->(∀j',j'<24->(w.ps j').st=.bB->nB w.last j<=nB w.last j')->Rel g ow (aX w j) H'->Q (.ref (g.pa j)) H') (hN:(∀j,j<24->(w.ps j).st≠.bB)->Q .none H):
  (aj (k+1)).aB .aK .yz [.ref g.tab] H Q:=by
 refine R.tQ λZ run ht=>?_;refine bo rfl rfl rfl (dT (zh (bS rfl ht.h rfl) (zd R.je.2 (by simp) ?_)));refine (show ((List.map (λi=>V.ref (g.pa i)) (List.range 24)).length:Int)=24 by simp)▸?_;refine l6 ?_;refine da (s7 (bh rfl) cS (pA (uo.mk _ _ (by decide) (by decide) (by unfold small;decide) (by unfold small;decide) ?_)));refine fV (λk m H'=>H'=H/\(∀s:Nat,s<k->(w.ps ((w.last+(1+s)) % 24)).st≠.bB)/\look .aa m=some (.ref g.tab)/\look .gb m=some (.int 24)) ?_ ?_ ⟨rfl,(λZ h=>absurd h (Nat.not_lt_zero Z)),rfl,rfl⟩
 ·intro l v m H' K hv mQ hK
  refine tD mQ λe hz h1 h2=>?_;subst e;obtain ⟨rfl,hl⟩:=pB hv;refine ⟨trivial,?_⟩;have w8:=lk (x:=.dH) (v:=V.int (1+l)) (y:=.aa) (by decide) h1;have t8:=lk (x:=.dH) (v:=V.int (1+l)) (y:=.gb) (by decide) h2;have hb:(w.last+(1+l)) % 24<24:=Nat.mod_lt _ (by decide);refine dT (QF (gj w8 ht.h rfl (p9 (s7 (bS w8 ht.h rfl) (bh aG) ?_))));refine pA (dY t8 ?_);have hx:((w.last:Int)+(1+l)) % 24=((w.last+(1+l)) % 24:Nat):=Oz;refine yN.mod _ _ (by decide) ?_;refine (hx)▸?_;refine qa (w:=V.ref (g.pa ((w.last+(1+l)) % 24))) R.je.2 (Int.natCast_nonneg _) (Int.lt_trans (Int.ofNat_lt.mpr hb) (by decide)) (by simp only [List.getElem?_map,Int.toNat_natCast,List.getElem?_range hb];rfl) ?_;generalize hj:(w.last+(1+l)) % 24=j at hb;refine (R.sX hb) _ λcw nm tn rg fv jv A=>?_;have h3:=lk (x:=.ab) (v:=.ref (g.pa j)) (y:=.aa) (by decide) w8;have h4:=lk (x:=.ab) (v:=.ref (g.pa j)) (y:=.gb) (by decide) t8;refine cG (bD (bS aG A.h rfl) (ig rfl) (kr eq_str ?_));by_cases hs:(w.ps j).st=.bB
  ·rw [decide_eq_true hs]
   have ne:g.pa j≠g.tab:=lF (R.proc j hb).o R.tab.o (ay rfl);refine bT (cH (bS aG A.h rfl) (bh h3) (cW ht.h rfl rfl rfl ?_));have R1:=R.sY (nx:=w.next) (l:=j) (f:=w.fst) (run:=run) hb ht.f ht.run;refine R1.pw hb λcw nm tn rg fv jv A=>?_;refine cH (ig rfl) (bh aG) (cW A.h rfl rfl rfl (l5 (dY aG (iH (ak _ _ _) rfl (da (rQ (cW (ak _ _ _) rfl rfl rfl ?_)))))));rw [jU];have R2:=R1.jV hb (P:=qd (w.ps j) .aF) (.mk A.ok.aJ nofun) A.cF A.ew A.fl A.dq (nm:=nm) (tn:=tn+1);refine R2.tQ λZ ad3 Z6=>?_;refine cH (bh aG) (bh h3) (cW Z6.h rfl rfl rfl (b6 (bh aG) (k_ret (k_ret (bA (hQ j _ hb hs ?_ ?_))))))
   ·intro j' k0 hr
    have hc:=vI ht.last k0;have Cy:nB w.last j=l:=by subst hj;exact Tg ht.last (by omega)
    refine (Cy)▸?_;rcases Nat.lt_or_ge (nB w.last j') l with h|h
    ·have:=hz _ h
     rw [hc.2] at this;exact absurd hr this
    ·exact h
   ·exact R2.sY (run:=some j) Z6.last Z6.f (λq e=>by cases e;exact hb)
  ·rw [decide_eq_false hs]
   refine aR (ar (ax (ar (hK _ _ ⟨rfl,λs vJ=>?_,h3,h4⟩))));rcases Nat.lt_succ_iff_lt_or_eq.mp vJ with h|h
   ·exact hz s h
   ·refine h▸?_;refine (hj)▸?_;exact hs
 ·intro m H' mc
  obtain ⟨e,hz,_⟩:=mc;subst e;refine ⟨trivial,ax (b6 cR (bA (hN λj hj=>?_)))⟩;have hlen:(Src.nums (upTo 1 (24+1))).items.length=24:=rfl;replace hz:=(hlen)▸hz;have hc:=vI ht.last hj;have:=hz _ hc.1;rw [hc.2] at this;exact this
end
noncomputable def mS (P:Pr)(f:Option ON):Pr:={P with fl:=f}
noncomputable def pairOf (sl:ON)(n:Nat):Option (Nat×Nat):=match sl[n]? with
 |some (some f)=>some (n,f)
 |_=>none
noncomputable def jC (sl:ON)(k:Nat):List (Nat×Nat):=(List.range k).filterMap (pairOf sl)
section
variable {n k:Nat}
variable {sl:ON}
theorem WB {q:Bool->Prop}(h:q (decide (z<=z'))):iz H .le (.int z) (.int z') q:=.le _ _ h
theorem WC {q:Bool->Prop}(h:q (decide (z<z'))):iz H .lt (.int z) (.int z') q:=.lt _ _ h
theorem rS {q:Src->Hp->Prop}(h:r.E e m H (uQ q)):wW r (.range e) m H q:=h
theorem md {q:Src->Hp->Prop}(h1:z<1000)(h2:small z)(h:q (.nums (upTo 0 z)) H):uQ q (.int z) H:=.mk _ h1 h2 h
theorem G7 (h:(ev C n).E a m H λu H=>(ev C n).E b m H λv H=>iz H .le u v λt=>if t then (ev C n).E c m H λw H=>iz H .lt v w λb=>QT b H else QT false H):(ev C (n+1)).T (.between a b c) m H QT:=h
theorem Th {q:Src->Hp->Prop}(h:r.E e m H (Et q)):wW r (.enum e) m H q:=h
theorem OB {q:Src->Hp->Prop}(hp:H p=some (.list xs))(h:q (.seq p (.list xs) xs) H):Et q (.ref p) H:=.mk _ _ hp h
theorem Ti (h:wW (ev C n) (.enum e) m H λs H=>s.items.length<1000/\iA (ev C n) el (λk v Z Q=>Q (put y v (put x (.int k) m))) s cn 0 s.items [] H λvs H=>alloc H (.list vs) Q):(ev C (n+1)).E (.kh el x y (.enum e) cn) m H Q:=h
theorem J6:F8 H (wA o) .none o.isNone:=Option.casesOn o .nn λZ=>.xn _ rfl
theorem Fd (h:sl[n]?=some o):(sl.map wA)[n]?=some (wA o):=by rw [List.getElem?_map,h];rfl
theorem jD {l:List α}{o:α}(h:l[n]?=some o):n<l.length:=(List.getElem?_eq_some_iff.mp h).1
theorem Rel.files (R:Rel g ow w H)(hi:i<24)(hf:(w.ps i).fl=some sl):∃cv nm tn rg d jv s,cQ g ow H i (w.ps i) cv nm tn rg (.ref d) jv/\cc ow H i d s sl:=by
 refine R.pw hi λcv nm tn rg fv jv A=>?_;have:=A.fl;simp only [hf] at this;refine this _ λd s e S=>?_;subst e;exact ⟨cv,nm,tn,rg,d,jv,s,A,S⟩
theorem J7 (S:cc ow H i d s sl){n:Nat}(hn:sl[n]?=some (some f))(hQ:Q (.ref f) H):(aj (k+1)).aB .aH .m8 [.ref d,.int n] H Q:=by
 have h6:n<6:=by have:=jD hn;rwa [S.len] at this
 refine bo rfl rfl rfl (cG (JT (EX (G7 (da (dY rfl (WB ?_)))))));rw [decide_eq_true (show (0:Int)<=n from Int.natCast_nonneg n)];refine bT (gj rfl S.hd rfl (WC ?_));rw [decide_eq_true (show (n:Int)<6 from Int.ofNat_lt.mpr h6)];have hx:(sl.map wA)[(n:Int).toNat]?=some (.ref f):=Fd (o:=some f) hn;have hb:(n:Int)<10000:=Int.lt_trans (Int.ofNat_lt.mpr h6) (by decide);refine aR (iJ (ku (bS rfl S.hd rfl) (bh rfl) (qa S.hs (Int.natCast_nonneg n) hb hx (fE (jW (.xn _ rfl) ?_)))));exact aR (ar (ax (fU (ku (bS rfl S.hd rfl) (bh rfl) (qa S.hs (Int.natCast_nonneg n) hb hx (bA hQ))))))
theorem OC (R:Rel g ow w H)(hi:i<24)(A:cQ g ow H i (w.ps i) cv nm tn rg (.ref d) jv)(S:cc ow H i d s sl){n:Nat}(hn:sl[n]?=some (some f))
  (hQ:∀H',Rel g ow (w.aL i (mS (w.ps i) (some (sl.set n none)))) H'->Q (.ref f) H'):(aj (k+2)).aB .aH .yA [.ref d,.int n] H Q:=by
 have hl:=jD hn;have h6:n<6:=by rwa [S.len] at hl
 refine bo rfl rfl rfl (dT (fW (bh rfl) S.hd rfl rfl rfl (ao (bh rfl) aA) (J7 S hn ?_)));refine xQ (fE (gj rfl S.hd rfl (dY rfl (vy S.hs (Int.natCast_nonneg n) (Int.lt_trans (Int.ofNat_lt.mpr h6) (by decide)) ?_ (b6 (bh rfl) (bA (hQ _ ?_)))))))
 ·simp only [List.length_map];exact hl
 ·have:=R.By hi A S (sl':=sl.set n none) (by rw [List.length_set];exact S.len)
  rw [List.map_set] at this;exact this
theorem zl (R:Rel g ow w H)(hi:i<24)(A:cQ g ow H i (w.ps i) cv nm tn rg (.ref d) jv)(S:cc ow H i d s sl){n:Nat}(hn:sl[n]?=some none)(rR:∀b,b<n->∃f',sl[b]?=some (some f'))
  (hQ:∀H',Rel g ow (w.aL i (mS (w.ps i) (some (sl.set n (some f))))) H'->Q (.int n) H'):(aj (k+1)).aB .aH .jm [.ref d,.ref f] H Q:=by
 have hl:=jD hn;have h6:n<6:=by rwa [S.len] at hl
 refine bo rfl rfl rfl (l6 ?_);refine rS (gj rfl S.hd rfl (md (by decide) (by unfold small;decide) ?_));refine fV (λl m H'=>H'=H/\l<=n/\look .aa m=some (.ref d)/\look .br m=some (.ref f)) ?_ ?_ ⟨rfl,Nat.zero_le _,rfl,rfl⟩
 ·intro l v m H' K hv mQ hK
  refine tD mQ λe tT h1 h2=>?_;subst e;obtain ⟨rfl,_⟩:=pB hv;rw [Int.zero_add];refine ⟨trivial,?_⟩;have w8:=lk (x:=.bF) (v:=V.int l) (y:=.aa) (by decide) h1;have t8:=lk (x:=.bF) (v:=V.int l) (y:=.br) (by decide) h2;have h7:(l:Int)<10000:=Int.lt_trans (Int.ofNat_lt.mpr (Nat.lt_of_le_of_lt tT h6)) (by decide);have ho:∃o,sl[l]?=some o:=⟨_,List.getElem?_eq_getElem (Nat.lt_of_le_of_lt tT hl)⟩;obtain ⟨o,ho⟩:=ho;refine cG (iJ (ku (bS w8 S.hd rfl) (bh aG) (qa S.hs (Int.natCast_nonneg l) h7 (Fd ho) (fE (jW J6 ?_)))));rcases Nat.lt_or_eq_of_le tT with fX|he
  ·obtain ⟨f',pz⟩:=rR l fX
   replace pz:=(ho)▸pz;cases pz;exact aR (ar (ax (ar (hK _ _ ⟨rfl,fX,w8,t8⟩))))
  ·subst he
   rw [hn] at ho;cases ho;refine bT (xQ (dY t8 (gj w8 S.hd rfl (dY aG (vy S.hs (Int.natCast_nonneg l) h7 ?_ (b6 (bh aG) (k_ret (k_ret (bA (hQ _ ?_))))))))))
   ·simp only [List.length_map];exact hl
   ·have:=R.By hi A S (sl':=sl.set l (some f)) (by rw [List.length_set];exact S.len)
    rw [List.map_set] at this;exact this
 ·intro m H' mc
  refine gC mc λe tT Z=>?_;exact absurd (Nat.lt_of_le_of_lt tT h6) (Nat.lt_irrefl _)
theorem J8 (R:Rel g ow w H)(S:cc ow H i d s sl)(hQ:∀az H',Rel g az w H'->Ext ow az->Q (.int (sl.filter Option.isNone).length) H'):(aj (k+1)).aB .aH .yw [.ref d] H Q:=by
 refine bo rfl rfl rfl (fU (QG (zf (kZ (bS rfl S.hd rfl) (jA S.hs ⟨?_,?_⟩)))))
 ·simp only [Src.items,List.length_map];rw [S.len];decide
 refine l8 (λk acc H'=>H'=H/\acc=((sl.take k).filter Option.isNone).map wA) ?_ ?_ ⟨rfl,rfl⟩
 ·intro l v acc H' K hv mQ hK
  obtain ⟨e,ha⟩:=mQ;subst e;replace hv:=(List.getElem?_map)▸(show (Src.seq s (.list (sl.map wA)) (sl.map wA)).items[l]?=(sl.map wA)[l]? from rfl)▸hv;induction hl:sl[l]? with
  |none=>replace hv:=(hl)▸hv;injection hv
  |some o=>
   replace hv:=(hl)▸hv;cases hv;have ht:=jX hl;refine ⟨S.hs,bD (bh aG) cR (jW J6 ?_)⟩;rw [ht,List.filter_append] at hK;induction o with
   |none=>exact bT (dY aG (hK _ _ ⟨rfl,by rw [ha,List.map_append];rfl⟩))
   |some f=>exact aR (hK _ _ ⟨rfl,by simp only [ha,List.map_append];exact (List.append_nil _).symm⟩)
 ·intro acc H' mc
  obtain ⟨e,ha⟩:=mc;subst e;refine ⟨S.hs,λa h=>?_⟩;simp only [Src.items,List.length_map,List.take_length] at ha;refine zd (ak _ _ _) ?_ (bA ?_)
  ·simp only [ha,List.length_map]
   exact Nat.lt_of_le_of_lt (List.length_filter_le _ _) (by rw [S.len];decide)
  ·have:=hQ _ _ (R.dM h (m:=false) (o:=.list acc)) (aq R h _)
   rw [ha,List.length_map];rw [ha] at this;exact this
theorem pC:jC sl (k+1)=jC sl k++(pairOf sl k).toList:=by
 unfold jC;simp only [List.range_succ,List.filterMap_append];congr 1
theorem bZ.snoc {R:α->β->Prop}{l:List α}{r:List β}(h:bZ R l r){a b}(HO:R a b):bZ R (l++[a]) (r++[b]):=by
 induction h with
 |nil=>exact .cons HO .nil
 |cons h1 _ ih=>exact .cons h1 ih
theorem bZ.at {R:α->β->Prop}{l:List α}{r:List β}(h:bZ R l r):∀{n:Nat}{a:α},l[n]?=some a->∃b,r[n]?=some b/\R a b:=by
 induction h with
 |nil=>intro n a h;injection h
 |cons h1 _ ih=>
  intro n a h;induction n with
  |zero=>cases h;exact ⟨_,rfl,h1⟩
  |succ n=>exact ih (n:=n) h
theorem bZ.len {R:α->β->Prop}{l:List α}{r:List β}(h:bZ R l r):l.length=r.length:=by
 induction h with
 |nil=>rfl
 |cons _ _ ih=>simp only [List.length_cons,ih]
theorem BL (R:Rel g ow w H)(S:cc ow H i d s sl)(hQ:∀az H' v vs,Rel g az w H'->Ext ow az->bQ az v (.list vs)->bZ (λv (p:Nat×Nat)=>bQ az v (.tuple [.int p.1,.ref p.2])) vs (jC sl 6)->Q v H'):
  (aj (k+1)).aB .aH .jj [.ref d] H Q:=by
 refine bo rfl rfl rfl (fU (Ti (Th (gj rfl S.hd rfl (OB S.hs ⟨?_,?_⟩)))))
 ·simp only [Src.items,List.length_map];rw [S.len];decide
 refine l8 (λk acc H'=>H' s=some (.list (sl.map wA))/\∃az,Rel g az w H'/\Ext ow az/\bZ (λv (p:Nat×Nat)=>bQ az v (.tuple [.int p.1,.ref p.2])) acc (jC sl k)) ?_ ?_ ⟨S.hs,ow,R,.rfl',.nil⟩
 ·intro l v acc H' K hv mQ hK
  obtain ⟨hs,az,R',E,ha⟩:=mQ;replace hv:=(List.getElem?_map)▸(show (Src.seq s (.list (sl.map wA)) (sl.map wA)).items[l]?=(sl.map wA)[l]? from rfl)▸hv;induction hl:sl[l]? with
  |none=>replace hv:=(hl)▸hv;injection hv
  |some o=>
   replace hv:=(hl)▸hv;cases hv;refine ⟨hs,bD (bh aG) cR (ou J6 ?_)⟩;rw [pC] at hK;unfold pairOf at hK;rw [hl] at hK;induction o with
   |none=>
    refine aR (hK _ _ ⟨hs,az,R',E,?_⟩);simp only [show (none:Option (Nat×Nat)).toList=[] from rfl,List.append_nil];exact ha
   |some f=>
    refine bT (jB (ao (bh (lk (by decide) aG)) (ao (bh aG) aA)) (λa h=>?_));refine hK _ _ ⟨(aY (λe=>by rw [<- e,hs] at h;injection h) _).trans hs,_,R'.dM h (m:=false),E.trans (aq R' h _),?_⟩;exact (ha.imp λZ Z z=>z.ext (aq R' h _).i).snoc (.mk a rfl (aC _ _ _))
 ·intro acc H' mc
  obtain ⟨hs,az,R',E,ha⟩:=mc;refine ⟨hs,λa h=>bA ?_⟩;simp only [Src.items,List.length_map,S.len] at ha;exact hQ _ _ _ acc (R'.dM h (m:=false)) (E.trans (aq R' h _)) (.mk a rfl (aC _ _ _)) (ha.imp λZ Z z=>z.ext (aq R' h _).i)
end
section
theorem BM {q:Bool->Prop}(h:decide (z<z')=t)(hq:q t):iz H .lt (.int z) (.int z') q:=.lt _ _ (h▸hq)
theorem Tj {q:Bool->Prop}(h:decide (z>z')=t)(hq:q t):iz H .gt (.int z) (.int z') q:=.gt _ _ (h▸hq)
theorem BN (R:Rel g ow w H)(hf:f∈w.fs)(h1:1<=w.bP f)(hQ:∀H',Rel g ow (w.km f (w.bP f+1)) H'->Q (.ref f) H'):(aj (k+1)).aB .aP .rp [.ref g.cg,.ref f] H Q:=by
 refine (R.file f hf).el λof rd wr p hc hp=>?_;refine bo rfl rfl rfl (cG (bD (bS rfl hc rfl) cS (BM (t:=false) (decide_eq_false (Int.not_lt.mpr h1)) ?_)));refine aR (ar (ax (l5 (dY rfl (iH hc rfl (da (rQ (cW hc rfl rfl rfl (b6 (bh rfl) (bA (hQ _ ?_)))))))))));exact R.EV of hp
theorem BO (R:Rel g ow w H)(hp:b9 ow H p)(hQ:∀az H' v,Rel g az w H'->Ext ow az->b9 az H' p->(∃id:Int,bQ az v (.tuple [.str .b5,.int id,.int z]))->Q v H'):
  (aj (k+1)).aB .eF .ck [.ref p,.int z] H Q:=by
 refine hp.el λop id rv x y hp=>?_;refine bo rfl rfl rfl (fU (jB (ao ox (ao (bS rfl hp rfl) (ao (bh rfl) aA))) (λa h=>bA (hQ _ _ _ (R.dM h) (aq R h _) ?_ ⟨id,(.mk a rfl (aC _ _ _))⟩))));have ne:p≠a:=λe=>by rw [<- e,hp] at h;injection h
 exact (.mk ((bC ne _).trans op) (.mk id rv x y ((aY ne _).trans hp)))
abbrev To (r:Ev)(b:E)(m:Loc)(Q:VP)(v:V)(H:Hp):Prop:=Er (λt H=>if t then r.E b m H Q else Q (.bool false) H) H v
theorem QJ (h:(ev C n).E a m H (To (ev C n) b' m Q)):(ev C (n+1)).E (.kM a b') m H Q:=h
theorem WD (h:Q (.bool false) H):To r b' m Q (.bool false) H:=.mk _ h
theorem WE (h:r.E b' m H Q):To r b' m Q (.bool true) H:=.mk _ h
theorem WG (h:(ev C n).E a m H λv H=>(ev C n).E c m H λw H=>IF H (λH=>eK (ev C (n+1)) ss m H F) v w):eK (ev C (n+1)) (.nT a c::ss) m H F:=h
theorem Tp (hp:H p=some (.dict es))(hl:es.length<1000)(hg:(dictGet z es).isSome=true)(h:q (H.upd p (.dict (dictDel z es)))):IF H q (.ref p) (.int z):=.mk _ _ _ hp hl hg h
theorem OD (hp:H p=some (.dict es))(h:Q ((dictGet z es).getD .none) H):pX C H .get (.ref p) .m8 [.int z] Q:=MT.mk _ _ _ hp h
theorem zm (h:(ev C n).E a m H (jJ λb H=>Q (.bool (!b)) H)):(ev C (n+1)).E (.jq a) m H Q:=h
theorem vK {q:Bool->Prop}{a:Nat}{xs d ds}(hp:H a=some (.list xs)\/H a=some (.tuple xs))(h1:Dm H v d)(h2:bZ (Dm H) xs ds)(h:d∈ds)(hq:q false):iz H .pV v (.ref a) q:=
 .pV _ _ _ _ _ hp h1 h2 ((decide_eq_true h).symm▸hq)
theorem J9 (h:bZ (Dm H) xs ds):bZ (Dm H) (.int z::xs) (.v (.int z)::ds):=.cons (.int z) h
theorem Ka (h:bZ (Dm H) xs ds):bZ (Dm H) (.str z::xs) (.v (.str z)::ds):=.cons (.str z) h
theorem xa (R:Rel g ow w H)(hp:b9 ow H p)(hz:z=0\/z=1)(hQ:∀az H' t,Rel g az w H'->Ext ow az->b9 az H' p->Q (.bool t) H'):
  (aj (k+1)).aB .eF .dt [.ref p,.int z] H Q:=by
 refine bo rfl rfl rfl (cG (iJ (dY rfl (jB (ao (ig rfl) (ao (ig rfl) aA)) (λa h=>vK (.inr (ak _ _ _)) (.int z) (J9 (J9 .nil)) (hz.elim (λe=>e▸.head _) (λe=>e▸.tail _ (.head _))) (aR (ar (ax ?_))))))));have R1:=R.dM h (m:=false) (o:=.tuple [.int 0,.int 1]);have E1:=aq R h (.k false (.tuple [.int 0,.int 1]));refine hp.el λop id rv x y hc=>?_;have WH:p≠a:=λe=>by rw [<- e,hc] at h;injection h
 have YC:(ow.set a (.k false (.tuple [.int 0,.int 1]))) p=.pipe:=(bC WH _).trans op;have xt:(H.upd a (.tuple [.int 0,.int 1])) p=some (.inst .eF (rO id rv x y)):=(aY WH _).trans hc;have fin:∀x' y',Q (.bool (!x'&&!y')) ((H.upd a (.tuple [.int 0,.int 1])).upd p (.inst .eF (rO id rv x' y'))):=λx' y'=>
  hQ _ _ _ (R1.Oh YC) E1 (.mk YC (.mk id rv x' y' (ak _ _ _)))
 have last:∀x' y' m,look .aa m=some (.ref p)->eK (ev (aj k) 40) [.ret (.kM (.jq (.attr (.var .aa) .hZ)) (.jq (.attr (.var .aa) .gu)))] m
   ((H.upd a (.tuple [.int 0,.int 1])).upd p (.inst .eF (rO id rv x' y'))) (Internal.fin Q):=λx' y' m hm=>by
  have:=fin x' y';induction x' with
  |true=>exact fU (QJ (zm (gj hm (ak _ _ _) rfl (bq (WD (bA this))))))
  |false=>exact fU (QJ (zm (gj hm (ak _ _ _) rfl (bq (WE (zm (gj hm (ak _ _ _) rfl (bq (bA this)))))))))
 refine cG (bD (bh rfl) (ig rfl) (kr eq_int ?_));rcases hz with rfl|rfl
 ·exact bT (cH GW (bh rfl) (cW xt rfl rfl rfl (ar (ax (last false y _ rfl)))))
 ·exact aR (cH GW (bh rfl) (cW xt rfl rfl rfl (ar (ax (last x false _ rfl)))))
theorem Kb:∀{es:List (Int×V)},dictGet z es=some v->∃e∈es,e.2=v:=by
 intro es h;unfold dictGet at h;cases hf:es.find? (λe=>decide (e.1=z)) with
 |none=>rw [hf] at h;injection h
 |some e=>replace h:=(hf)▸h;cases h;exact ⟨e,List.mem_of_find?_eq_some hf,rfl⟩
theorem qf (R:Rel g ow w H)(hn:w.eu<1000)(hp:b9 ow H p)(hz:z=0\/z=1)(hQ:∀az H',Rel g az w H'->Ext ow az->b9 az H' p->Q .none H'):
  (aj (k+2)).aB .bj .dt [.ref g.b7,.ref p,.int z] H Q:=by
 refine hp.h _ λid rv x y hc=>?_;refine bo rfl rfl rfl (cG (vA (qG (fW (bh rfl) hc rfl rfl rfl (ao (bh rfl) aA) (xa R hp hz λiR H1 t R1 E1 tG=>bq ?_)))));induction t with
 |false=>exact aR (aR (ar (ax (ar (cC (hQ _ _ R1 E1 tG))))))
 |true=>
  refine tG.h _ λid rv x y xt=>?_;refine R1.bM.el λod es hd hl hv=>?_;refine bT (iJ (e7 (bS rfl R1.b7.2 rfl) (Ol hd ⟨rfl,ao (bS rfl xt rfl) aA _ ?_⟩)));refine OD hd (dY rfl ?_);induction hg:dictGet id es with
  |none=>exact jW (.nx _ rfl) (aR (ar (ax (ar (cC (hQ _ _ R1 E1 tG))))))
  |some u=>
   refine aQ (Kb hg) λe he dp=>?_;subst dp;refine aQ (hv e he) λp' e' FX=>?_;refine FX.el λop' id' rv' x' y' Z7=>?_;rw [Option.getD_some,e'];refine jW (vB Z7 xt rfl) ?_;induction hb:p'==p with
   |false=>exact aR (ar (ax (ar (cC (hQ _ _ R1 E1 tG)))))
   |true=>
    refine bT (WG (gj rfl R1.b7.2 rfl (gj rfl xt rfl (Tp hd (Nat.lt_of_le_of_lt hl hn) (by rw [hg];rfl) (ar (ax (ar (cC (hQ _ _ (R1.Bz ?_ ?_) E1 ?_)))))))))
    ·exact Nat.le_trans (List.length_filter_le _ _) hl
    ·exact λe he=>hv e (List.mem_filter.mp he).1
    ·have ne:p≠g.bM:=lF tG.o od (ay rfl)
     exact (.mk tG.o (.mk id rv x y ((aY ne _).trans xt)))
theorem G8 (R:Rel g ow w H)(hn:w.eu<1000)(uc:w.dG<1000)(of:ow f=.file)(hp:b9 ow H p)(h1:1<=w.bP f)(hc:H f=some (.inst .bV (kX rd wr (w.bP f) p)))
  (hQ:∀az H',Rel g az (w.km f (w.bP f - 1)) H'->Ext ow az->b9 az H' p->Q .none H'):(aj (k+3)).aB .aP .dt [.ref g.cg,.ref f] H Q:=by
 refine bo rfl rfl rfl (cG (bD (bS rfl hc rfl) cS (BM (t:=false) (decide_eq_false (Int.not_lt.mpr h1)) (aR (ar (ax ?_))))));have nn:∀m F,look .br m=some (.ref f)->(F:BP) false H->(ev (aj (k+2)) 39).T (.kM (.cmp .eq (.attr (.var .br) .fQ) (.int 1)) (.cmp .ne (.attr (.var .br) .fc) (.kL .sk))) m H F:=λm F hm hF=>by
  refine vA (bD (bS hm hc rfl) cS (kr eq_int ?_));split
  ·exact bD (bS hm hc rfl) (ig rfl) (Wy (b:=true) rfl hF)
  ·exact hF
 refine cG (nn _ _ rfl (aR (ar (ax ?_))));refine l5 (dY rfl (iH hc rfl (da (Oj (cW (fs':=kX rd wr (w.bP f - 1) p) hc rfl rfl rfl ?_)))));have R1:Rel g ow (w.km f (w.bP f - 1)) _:=R.EV (h:=w.bP f - 1) (rd:=rd) (wr:=wr) of hp;have tG:=hp.sim (hU.upd H (.inst .bV (kX rd wr (w.bP f - 1) p))) (Off.w4 of (ay rfl));have xt:=ak H f (.inst .bV (kX rd wr (w.bP f - 1) p));generalize (H.upd f (.inst .bV (kX rd wr (w.bP f - 1) p)))=H1 at R1 tG xt;refine cG (bD (bS rfl xt rfl) cS (Tj rfl ?_));cases decide (w.bP f - 1>0) with
 |true=>exact bT (b6 cR (k_ret (bA (hQ _ _ R1 .rfl' tG))))
 |false=>
  refine aR (ar (ax ?_));refine R1.Z0 λot dv o vs ht oo ho hl hv=>?_;refine eW (zf (kZ (bS rfl ht rfl) (jA ho ⟨Nat.lt_of_le_of_lt hl uc,?_⟩)));refine l8 (λl acc H'=>H'=H1/\acc.length<=l/\∀v∈acc,∃f∈w.fs,v=.ref f) ?_ ?_ ⟨rfl,Nat.le_refl _,(λZ h=>absurd h List.not_mem_nil)⟩
  ·intro l v acc H' K GF mQ hK
   refine gC mQ λe ha hm=>?_;subst e;refine aQ (hv v (List.mem_of_getElem? GF)) λf' pz dp=>?_;subst dp;refine (R1.file f' pz).el λZ rd' wr' p' Z7 Z=>?_;refine ⟨ho,bD (bh aG) (bh (EZ (by decide))) (ou (vB Z7 xt rfl) ?_)⟩;induction hb:f'==f with
   |true=>exact aR (hK _ _ ⟨rfl,Nat.le_succ_of_le ha,hm⟩)
   |false=>
    refine bT (dY aG (hK _ _ ⟨rfl,by rw [List.length_append];exact Nat.succ_le_succ ha,λv ED=>?_⟩));rcases List.mem_append.mp ED with h|h
    ·exact hm v h
    ·exact ⟨f',pz,List.mem_singleton.mp h⟩
  ·intro acc H' mc
   refine gC mc λe ha hm=>?_;subst e;refine ⟨ho,λa h=>dY rfl ?_⟩;have R2:=R1.new (l:=.Bw) h (o:=.list acc) (λZ Z=>ay rfl);have E2:=aq R1 h .Bw;have YD:g.cg≠a:=λe=>by rw [<- e,ht] at h;injection h
   have hfa:f≠a:=λe=>by rw [<- e,xt] at h;injection h
   refine cW (fs':=lZ g dv a) ((aY YD _).trans ht) rfl rfl rfl ?_;have R3:=R2.Og (dv:=dv) (o:=a) (aC _ _ _) (ak _ _ _) (Nat.le_trans ha hl) hm;have FW:b9 (ow.set a .Bw) (H'.upd a (.list acc)) p:=by
    refine tG.el λop id rv x y hq=>?_;have WH:p≠a:=λe=>by rw [<- e,hq] at h;injection h
    exact (.mk ((bC WH _).trans op) (.mk id rv x y ((aY WH _).trans hq)))
   have ot2:(ow.set a .Bw) g.cg=.cg:=(bC YD _).trans ot;have of2:(ow.set a .Bw) f=.file:=(bC hfa _).trans of;have WI:=FW.sim (hU.upd _ (.inst .aP (lZ g dv a))) (Off.w4 ot2 (ay rfl));have WJ:((H'.upd a (.list acc)).upd g.cg (.inst .aP (lZ g dv a))) f=some (.inst .bV (kX rd wr (w.bP f - 1) p)):=
    (aY (lF of2 ot2 (ay rfl)) _).trans ((aY hfa _).trans xt)
   refine R3.cg _ λ_ q36=>?_;refine q36 _ λdv3 o3 vs3 ht3 _ _ _ _=>?_;generalize ((H'.upd a (.list acc)).upd g.cg (.inst .aP (lZ g dv a)))=H3 at R3 WI WJ ht3;refine cG (bD (bS rfl WJ rfl) (ig rfl) (JY (b:=true) rfl (bT ?_)));refine bK (e7 (bS rfl ht3 rfl) (jz R3.b7.2 rfl rfl ⟨rfl,aT (gj rfl WJ rfl (aT (fW (bh rfl) WJ rfl rfl rfl aA ?_)))⟩));refine bo rfl rfl rfl (fU (Wu (JU (gj rfl WJ rfl (bq ?_)))));induction wr with
   |true=>exact bT (tR rfl (bA (cA (mP (qf R3 hn WI (.inr rfl) λHT H4 R4 E4 UL=>b6 cR (k_ret (bA (hQ _ _ R4 (E2.trans E4) UL))))))))
   |false=>exact aR (tR rfl (bA (cA (mP (qf R3 hn WI (.inl rfl) λHT H4 R4 E4 UL=>b6 cR (k_ret (bA (hQ _ _ R4 (E2.trans E4) UL))))))))
end
noncomputable def W.lG (w:W)(L:List (Nat×Nat)):W:=L.foldl (λw p=>w.km p.2 (w.bP p.2+1)) w
def xb (ow:Ow)(H:Hp)(az:Ow)(H':Hp):Prop:=∀b o,H b=some o->az b=ow b/\H' b=some o
theorem G9 {w:W}:w.lG (L++[p])=(w.lG L).km p.2 ((w.lG L).bP p.2+1):=by unfold W.lG;rw [List.foldl_append];rfl
set_option tactic.hygienic true in
theorem OE:∀{w:W},w.bP f<=(w.lG L).bP f:=by
 induction L with
 |nil=>intro w;exact Int.le_refl _
 |cons p L ih=>
  intro w;refine Int.le_trans ?_ (ih (w:=w.km p.2 (w.bP p.2+1)));unfold W.km;simp only [];split
  ·rename_i h;subst h;exact Int.le_of_lt (Int.lt_succ _)
  ·exact Int.le_refl _
theorem bE:∀{w:W},(w.lG L).ps=w.ps/\(w.lG L).fs=w.fs/\(w.lG L).fst=w.fst/\(w.lG L).next=w.next/\(w.lG L).dG=w.dG/\(w.lG L).eu=w.eu:=by
 induction L with
 |nil=>intro w;exact ⟨rfl,rfl,rfl,rfl,rfl,rfl⟩
 |cons p L ih=>intro w;exact ih (w:=w.km p.2 (w.bP p.2+1))
noncomputable def zp (l:ON)(L:List (Nat×Nat)):ON:=L.foldl (λl p=>l.set p.1 (some p.2)) l
theorem xT:zp l (L++[p])=(zp l L).set p.1 (some p.2):=by unfold zp;rw [List.foldl_append];rfl
theorem Kc:∀{l:ON},(zp l L).length=l.length:=by
 induction L with
 |nil=>intro l;rfl
 |cons p L ih=>intro l;exact (ih (l:=l.set p.1 (some p.2))).trans List.length_set
set_option tactic.hygienic true in
theorem xU (h:pairOf sl n=some p):p.1=n/\sl[n]?=some (some p.2):=by
 unfold pairOf at h;split at h
 ·rename_i f hf;cases h;exact ⟨rfl,hf⟩
 ·injection h
theorem vL (h:p∈jC sl k):p.1<k/\sl[p.1]?=some (some p.2):=by
 refine aQ (List.mem_filterMap.mp h) λn hn hp=>?_;obtain ⟨e,h2⟩:=xU hp;subst e;exact ⟨List.mem_range.mp hn,h2⟩
theorem Ke:∀k,k<=sl.length->zp (List.replicate sl.length none) (jC sl k)=sl.take k++List.replicate (sl.length - k) none:=by
 intro k;induction k with
 |zero=>
  intro _;rfl
 |succ k IH=>
  intro h;have ih:=IH (Nat.le_of_succ_le h);refine (pC)▸?_;have hk:k<sl.length:=h;have hg:sl[k]?=some sl[k]:=List.getElem?_eq_getElem hk;have hr:List.replicate (sl.length - k) (none:Option Nat)=none::List.replicate (sl.length - (k+1)) none:=by
   rw [show sl.length - k=(sl.length - (k+1))+1 by grind only];rfl
  have ht:(sl.take k).length=k:=by rw [List.length_take];exact Nat.min_eq_left (Nat.le_of_lt hk)
  rw [jX hg];unfold pairOf;refine (hg)▸?_;induction hs:sl[k] with
  |none=>simp only [Option.toList,List.append_nil];simp only [ih,hr,List.append_assoc];rfl
  |some f=>
   simp only [Option.toList];simp only [xT,ih,hr,List.set_append_right _ _ (by rw [ht];exact Nat.le_refl _),ht,Nat.sub_self,List.append_assoc];rfl
section
variable {w w0:W}
theorem cc.grow (G:xb ow H az H')(S:cc ow H i d s sl):cc az H' i d s sl:=
 (.mk ((G _ _ S.hd).1.trans S.od) ((G _ _ S.hd).2) ((G _ _ S.hs).1.trans S.os) ((G _ _ S.hs).2) S.len)
theorem fi {a l o}(h:H a=none):xb ow H (ow.set a l) (H.upd a o):=λb ob hb=>by
 have ne:b≠a:=λe=>by rw [<- e,hb] at h;injection h
 exact ⟨bC ne _,(aY ne _).trans hb⟩
theorem xb.trans (x:xb ow H iR H1)(y:xb iR H1 oA H2):xb ow H oA H2:=λb o h=>⟨(y b o (x b o h).2).1.trans (x b o h).1,(y b o (x b o h).2).2⟩
def Fe (s:Nat):NV:=[(.dW,.int 6),(.gV,.ref s)]
theorem BQ (R:Rel g ow w H)(he:Pu (ev (aj (k+1)) n) e m H (.int 6))
  (hQ:∀az H' a s,Rel g az w H'->xb ow H az H'->Ext ow az->H a=none->H s=none->a≠s->az a=.k true (.inst .aH (Fe s))->az s=.k true (.list ((List.replicate 6 none).map wA))->Q (.ref a) H'):
  (ev (aj (k+1)) (n+1)).E (.new .aH [e]) m H Q:=by
 refine nj rfl (aT (he _ (cA λa ha=>?_)));refine bo rfl rfl rfl (cG (bD (bh rfl) cS (BM (t:=false) rfl (aR (ar (ax ?_))))));refine bH (λZ h=>dY rfl h) rfl rfl (Nat.zero_lt_succ 0) rfl λhb=>?_;refine eW (p9 (gG (ao cR aA) (λa1 h1=>dY rfl (BF (ak _ _ _) (by decide) (by decide) λa2 h2=>dY rfl ?_))));have e1:a1≠a:=λe=>by rw [e,ak] at h1;injection h1
 have e2:a2≠a:=λe=>by rw [e,aY e1.symm,ak] at h2;injection h2
 rw [dy e1.symm,dy e2.symm];rw [dy e1.symm,aY e2] at h2;rw [aY e1] at h1;refine gz rfl hb rfl λhb=>ar (cC ⟨rfl,?_⟩);have R1:=R.dM h1 (m:=false) (o:=.list [.none]);have R2:=R1.dM h2 (m:=true) (o:=.list ((List.replicate 6 none).map wA));have h3:((H.upd a1 (.list [.none])).upd a2 (.list ((List.replicate 6 none).map wA))) a=none:=(aY e2.symm _).trans ((aY e1.symm _).trans ha);have R3:=R2.dM h3 (m:=true) (o:=.inst .aH (Fe a2));have e3:a2≠a1:=λe=>by rw [e,ak] at h2;injection h2
 exact hQ _ _ a a2 R3 ((fi h1).trans ((fi h2).trans (fi h3))) ((aq R h1 _).trans ((aq R1 h2 _).trans (aq R2 h3 _))) ha (by rw [aY e3] at h2;exact h2) e2.symm (aC _ _ _) ((bC e2 _).trans (aC _ _ _))
theorem zq {q:V->V->Prop}{a:Nat}{x y:V}(hp:H a=some (.tuple [x,y]))(h:q x y):Qm H (.ref a) q:=.mk _ _ _ hp h
theorem OF (R:Rel g ow w H)(S:cc ow H i d s sl)(hF:∀(n:Nat) f,sl[n]?=some (some f)->f∈w.fs/\1<=w.bP f)
  (hQ:∀az H' a s,Rel g az (w.lG (jC sl 6)) H'->Ext ow az->(∀b m o,ow b=.k m o->b≠a/\b≠s)->a≠s->az a=.k true (.inst .aH (Fe s))->az s=.k true (.list (sl.map wA))->Q (.ref a) H'):
  (aj (k+2)).aB .aH .uG [.ref d,.ref g.cg] H Q:=by
 refine bo rfl rfl rfl (dT (BQ R (λQ hq=>gj rfl S.hd rfl hq) λiR H1 a s1 R1 G1 E1 ha hs has oa os=>?_));have S1:=S.grow G1;refine JN (vz (fW (bh rfl) S1.hd rfl rfl rfl aA (BL R1 S1 λoA H2 v vs R2 E2 vG j0=>?_)));refine vG _ λav q33 hv=>?_;clear vG;obtain rfl:=q33;refine jA (R2.aM _ _ _ hv) ?_;refine fV (λl m H'=>∃az,Rel g az (w.lG ((jC sl 6).take l)) H'/\Ext ow az/\qF oA az/\az a=.k true (.inst .aH (Fe s1))/\az s1=.k true (.list ((zp (List.replicate 6 none) ((jC sl 6).take l)).map wA))/\
  look .dd m=some (.ref a)/\look .aW m=some (.ref g.cg)) ?_ ?_ ⟨oA,R2,E1.trans E2,.rfl',E2 _ _ _ oa,E2 _ _ _ os,rfl,rfl⟩
 ·intro l v m H' K GF mQ hK
  refine P8 mQ λaz R' E' EI YE Ii l1 l2=>?_;refine ⟨R'.aM _ _ _ (EI _ _ hv),?_⟩;obtain ⟨p,hp,YF⟩:=j0.at GF;refine YF _ λt q34 ht=>?_;clear YF;obtain rfl:=q34;refine zq (R'.aM _ _ _ (EI _ _ ht)) ?_;simp only [jX hp,G9,xT] at hK;have hm:=vL (List.mem_of_getElem? hp);obtain ⟨f1,f2⟩:=hF _ _ hm.2;have OG:=lk (x:=.br) (v:=.ref p.2) (y:=.dd) (by decide) (lk (x:=.bF) (v:=.int p.1) (y:=.dd) (by decide) l1);have QK:=lk (x:=.br) (v:=.ref p.2) (y:=.aW) (by decide) (lk (x:=.bF) (v:=.int p.1) (y:=.aW) (by decide) l2);refine R'.cg _ λ_ YF=>?_;refine YF _ λ_ _ _ Tq _ _ _ _=>?_;refine xQ (fW (bh QK) Tq rfl rfl rfl (ao (bh aG) aA) (BN R' (by rw [bE.2.1];exact f1) (Int.le_trans f2 OE) λH3 R3=>?_));have tT:(zp (List.replicate 6 none) ((jC sl 6).take l)).length=6:=Kc;refine gj OG (R3.aM _ _ _ YE) rfl (dY (lk (by decide) aG) (vy (R3.aM _ _ _ Ii) (Int.natCast_nonneg _) (Int.lt_trans (Int.ofNat_lt.mpr hm.1) (by decide)) ?_ ?_))
  ·simp only [List.length_map,tT];exact hm.1
  have R4:=R3.mod Ii (l:=.k true (.list ((((zp (List.replicate 6 none) ((jC sl 6).take l))).set p.1 (some p.2)).map wA))) (o1:=.list (((zp (List.replicate 6 none) ((jC sl 6).take l)).map wA).set p.1 (.ref p.2)))
   (λZ Z e=>by cases e;rw [List.map_set];rfl)
  refine ar (hK _ _ ⟨_,R4,λb m o hb=>?_,EI.trans (kq Ii _),(bC has _).trans YE,aC _ _ _,OG,QK⟩);have:b≠s1:=λe=>by rw [e] at hb;have:=R.aM _ _ _ hb;rw [hs] at this;injection this
  exact (bC this _).trans (E' _ _ _ hb)
 ·intro m H' mc
  refine P8 mc λaz R' E' EI YE Ii l1 l2=>?_;refine ⟨R'.aM _ _ _ (EI _ _ hv),ax (b6 (bh l1) (bA (hQ _ _ _ _ ?_ E' (λb m o hb=>⟨λe=>(by rw [e] at hb;rw [R.aM _ _ _ hb] at ha;injection ha),λe=>(by rw [e] at hb;rw [R.aM _ _ _ hb] at hs;injection hs)⟩) has YE ?_)))⟩
  ·rw [show (Src.seq av (.list vs) vs).items.length=(jC sl 6).length from j0.len,List.take_length] at R'
   exact R'
  ·replace Ii:=(List.take_length)▸(show (Src.seq av (.list vs) vs).items.length=(jC sl 6).length from j0.len)▸Ii
   have:=Ke (sl:=sl) 6 (by simp only [S.len];exact Nat.le_refl _);rw [S.len,Nat.sub_self] at this;rw [this] at Ii;rw [show sl.take 6++List.replicate 0 none=sl by rw [List.take_of_length_le (by rw [S.len];exact Nat.le_refl _)];exact List.append_nil _] at Ii;exact Ii
theorem Rel.at (R:Rel g ow (w0.aL j P) H)(hj:j<24):∃cv nm tn rg fv jv,cQ g ow H j P cv nm tn rg fv jv:=by
 refine R.pw hj λcv nm tn rg fv jv A=>?_;rw [ah] at A;exact ⟨cv,nm,tn,rg,fv,jv,A⟩
theorem gO (R:Rel g ow (w0.aL j P) H)(hj:j<24)(A:cQ g ow H j P cv nm tn rg fv jv)(hx:attrOk .bw x=true)
  (Z8:put x v (JK g j P cv nm tn rg fv jv)=JK g j P' Z5 Z9 tn' rg' fv' jv')(ok:uf P')(hc:om ow Z5 P'.cF)(hr:fg ow H j rg')(hf:pv ow H j fv' P'.fl)(hjb:xK g ow H j jv' P'.dq)
  (hq:∀H',Rel g ow (w0.aL j P') H'->q H'):fJ H (.ref (g.pa j)) x v q:=by
 refine cW A.h hx rfl Z8 (hq _ ?_);have:=R.jV hj (P:=P') ok hc hr hf hjb (nm:=Z9) (tn:=tn')
 rwa [dn] at this
theorem Ha:∀{w:W},(w.aL j P).lG L=(w.lG L).aL j P:=by
 induction L with
 |nil=>intro w;rfl
 |cons p L ih=>intro w;exact ih (w:=w.km p.2 (w.bP p.2+1))
def kz (aS:Int)(i:Nat)(sl:ON):Pr:=⟨aS,.bB,some i,.none,0,some sl,none⟩
def d6 (w:W)(i j:Nat)(sl:ON):W:=(({w with next:=w.next+1,fst:=some (w.fst.getD j)}:W).lG (jC sl 6)).aL j (kz w.next i sl)
theorem zr (h:(ev C n).T c m H λt H=>if t then (ev C n).E a m H Q else (ev C n).E b' m H Q):(ev C (n+1)).E (.ite c a b') m H Q:=h
theorem OH (R:Rel g ow w H)(hi:i<24)(hu:(w.ps i).st≠.ae)(GD:∃j,j<24/\(w.ps j).st=.ae) (gQ:(w.ps i).fl=some sl) (hF:∀(n:Nat) f,sl[n]?=some (some f)->f∈w.fs/\1<=w.bP f)
  (hQ:∀j az H',j<24->(w.ps j).st=.ae->Rel g az (d6 w i j sl) H'->Ext ow az->Q (.ref (g.pa j)) H'):(aj (k+3)).aB .aK .lr [.ref g.tab,.ref (g.pa i),.ref g.cg] H Q:=by
 refine R.tQ λZ run ht=>?_;refine R.pw hi λcv nm tn rg fv jv A=>?_;refine bo rfl rfl rfl (dT (fW (bh rfl) ht.h rfl rfl rfl (ao (bS rfl A.h rfl) aA) (J4 R GD λj iR H1 hj Tr Z R1 E1=>?_)));have L6:i≠j:=λe=>hu (e▸Tr);have Qe:∀{w:W}{P},(w.aL j P).ps i=w.ps i:=aD L6;refine R1.pw hi λcv nm tn rg fv jv A=>?_;refine lI (R1.at hj) λMe G4 Mf Kf Mg Mh B=>?_;refine BA (eW (zr (bD (bS rfl A.h rfl) cR (jW .nn (bT (fE (dY rfl ?_)))))));refine gO R1 hj B rfl rfl B.ok B.cF B.ew B.fl B.dq λH2 R2=>ar (ax ?_);refine R2.pw hi λcv nm tn rg fv jv A=>?_;refine A.ew.el λorg xs kI hlen=>?_;refine eW (l9 (bS rfl A.h rfl) (iI kI ⟨by rw [hlen];decide,λa ha=>dY rfl ?_⟩));have R3:=R2.new ha (l:=.ew j) (o:=.list xs) (λZ Z=>ay rfl);have E3:=aq R2 ha (.ew j);refine lI (R3.at hj) λMe G4 Mf Kf Mg Mh B=>?_;refine gO R3 hj B rfl rfl (rg':=a) B.ok B.cF (.mk (aC _ _ _) (.mk xs (ak _ _ _) hlen)) B.fl B.dq λH4 R4=>?_;refine lI (R4.at hj) λMe G4 Mf Kf Mg Mh B=>?_;refine B.ew.el λaaa xs1 aab QL=>?_;refine xQ (da (gj rfl B.h rfl (tR rfl (vy aab (by decide) (by decide) (by simp only [QL];decide) ?_))));have R5:=R4.Of hj aaa (xs:=xs1.set ((10:Int).toNat) (.int 0)) (by rw [List.length_set];exact QL);generalize (H4.upd Kf (.list (xs1.set ((10:Int).toNat) (.int 0))))=H5 at R5;refine R5.pw hi λcv nm tn rg fv jv A=>?_;refine lI (R5.at hj) λMe G4 Mf Kf Mg Mh B=>?_;refine cH (bS rfl A.h rfl) (bh rfl) (gO R5 hj B rfl rfl B.ok B.cF B.ew B.fl B.dq λH6 R6=>?_);refine lI (R6.at hj) λMe G4 Mf Kf Mg Mh B=>?_;refine cH (bh rfl) (bh rfl) (gO R6 hj B rfl (P':=w9 (mR w.next) (some i)) rfl (.mk (λq e=>by cases e;exact hi) nofun) B.cF B.ew B.fl B.dq λH7 R7=>?_);refine fq (R7.files hi (sl:=sl) (by rw [Qe];exact gQ)) λcv nm tn rg d jv s A S=>?_;refine eW (zr (bD (bS rfl A.h rfl) cR (jW (.xn _ rfl) (aR (fW (bS rfl A.h rfl) S.hd rfl rfl rfl (ao (bh rfl) aA) (OF R7 S hF λow8 H8 a8 s8 R8 E8 N8 ne8 oa8 os8=>dY rfl ?_))))));rw [Ha] at R8;have R9:=R8.dR oa8 (l:=.desc j) (λZ Z=>ay rfl);have HU:=R9.dR (a:=s8) ((bC ne8.symm _).trans os8) (l:=.slots j) (λZ Z=>ay rfl);have WK:Ext ow ((ow8.set a8 (.desc j)).set s8 (.slots j)):=λb m' o' hb=>by
  have h1:=E3 _ _ _ (E1 _ _ _ hb);exact (bC (N8 _ _ _ h1).2 _).trans ((bC (N8 _ _ _ h1).1 _).trans (E8 _ _ _ h1))
 refine lI (HU.at hj) λMe G4 Mf Kf Mg Mh B=>?_;refine gO HU hj B rfl (P':=mS (w9 (mR w.next) (some i)) (some sl)) rfl (.mk B.ok.aJ nofun) B.cF B.ew (.mk a8 s8 rfl (.mk ((bC ne8 _).trans (aC _ _ _)) (R8.aM _ _ _ oa8) (aC _ _ _) (R8.aM _ _ _ os8) S.len)) B.dq λH11 Mi=>?_;refine Mi.pw hi λcv nm tn rg fv jv A=>?_;refine lI (Mi.at hj) λMe G4 Mf Kf Mg Mh B=>?_;refine cH (bS rfl A.h rfl) (bh rfl) (gO Mi hj B rfl rfl B.ok B.cF B.ew B.fl B.dq λH12 YG=>?_);refine YG.tQ λZ run ht=>?_;refine bK (fW (bh rfl) ht.h rfl rfl rfl (ao (bh rfl) aA) (oy YG hj λH13 R13 Z=>?_));simp only [dn,ah] at R13;exact b6 (bh rfl) (bA (hQ j _ _ hj Tr R13 WK))
end
noncomputable def ind (f:Nat)(o:Option Nat):Int:=if o=some f then 1 else 0
noncomputable def fF (f:Nat->Int):Nat->Int
 |0=>0
 |n+1=>fF f n+f n
theorem xV {i n:Nat}(h:i<n+1)(e:i≠n):i<n:=Nat.lt_of_le_of_ne (Nat.le_of_lt_succ h) e
theorem WL {a b c d:Int}(h:a=b)(h':c=d):a+c=b+d:=h▸h'▸rfl
theorem kA {f f':Nat->Int}(n:Nat):(∀j,j<n->f' j=f j)->fF f' n=fF f n:=by
 induction n with
 |zero=>exact λZ=>rfl
 |succ n ih=>exact λh=>WL (ih λj hj=>h j (Nat.lt_succ_of_lt hj)) (h n (Nat.lt_succ_self _))
theorem WM {a b c:Int}:a+b=a+c+b - c:=by omega
theorem WN {a b p q:Int}:a+p - q+b=a+b+p - q:=by omega
theorem mf (n:Nat):i<n->(∀j,j≠i->f' j=f j)->fF f' n=fF f n+f' i - f i:=by
 induction n with
 |zero=>exact λh=>absurd h (Nat.not_lt_zero _)
 |succ n ih=>
  intro h hj;refine (?_:fF f' n+f' n=fF f n+f n+f' i - f i);by_cases e:i=n
  ·subst e;rw [kA i λj fX=>hj j (Nat.ne_of_lt fX)];exact WM
  ·rw [ih (xV h e) hj,hj n λe'=>e e'.symm];exact WN
theorem pD {f:Nat->Int}(n:Nat):(∀j,j<n->0<=f j)->0<=fF f n:=by
 induction n with
 |zero=>exact λZ=>Int.le_refl _
 |succ n ih=>exact λh=>Int.add_nonneg (ih λj hj=>h j (Nat.lt_succ_of_lt hj)) (h n (Nat.lt_succ_self _))
theorem OI {f f':Nat->Int}(n:Nat):(∀j,j<n->f j<=f' j)->fF f n<=fF f' n:=by
 induction n with
 |zero=>exact λZ=>Int.le_refl _
 |succ n ih=>exact λh=>Int.add_le_add (ih λj hj=>h j (Nat.lt_succ_of_lt hj)) (h n (Nat.lt_succ_self _))
theorem rT (n:Nat):i<n->(∀j,j<n->0<=f j)->f i<=fF f n:=by
 induction n with
 |zero=>exact λh=>absurd h (Nat.not_lt_zero _)
 |succ n ih=>
  intro h hn;have h2:∀j,j<n->0<=f j:=λj hj=>hn j (Nat.lt_succ_of_lt hj);by_cases e:i=n
  ·rw [e];exact Int.le_add_of_nonneg_left (pD n h2)
  ·exact Int.le_trans (ih (xV h e) h2) (Int.le_add_of_nonneg_right (hn n (Nat.lt_succ_self _)))
theorem Kg (n:Nat):i<n->k<n->i≠k->(∀j,j<n->0<=f j)->f i+f k<=fF f n:=by
 induction n with
 |zero=>exact λh=>absurd h (Nat.not_lt_zero _)
 |succ n ih=>
  intro h h' dw hn;have h2:∀j,j<n->0<=f j:=λj hj=>hn j (Nat.lt_succ_of_lt hj);by_cases e:i=n
  ·rw [Int.add_comm,e];exact Int.add_le_add_right (rT n (xV h' λq=>dw (e.trans q.symm)) h2) _
  ·by_cases e':k=n
   ·rw [e'];exact Int.add_le_add_right (rT n (xV h e) h2) _
   ·exact Int.le_trans (ih (xV h e) (xV h' e') dw h2) (Int.le_add_of_nonneg_right (hn n (Nat.lt_succ_self _)))
theorem aad {a b:Int}(h:0<a+b)(e:¬0<b):0<a:=by omega
theorem rU {f:Nat->Int}(n:Nat):0<fF f n->∃j,j<n/\0<f j:=by
 induction n with
 |zero=>exact λh=>absurd h (Int.lt_irrefl _)
 |succ n ih=>
  intro h;by_cases e:0<f n
  ·exact ⟨n,Nat.lt_succ_self _,e⟩
  ·exact aQ (ih (aad h e)) λj hj hf=>⟨j,Nat.lt_succ_of_lt hj,hf⟩
theorem WO {a b c d:Int}:a+b+(c+d)=a+c+(b+d):=by omega
theorem mh {f f':Nat->Int}(n:Nat):fF (λj=>f j+f' j) n=fF f n+fF f' n:=by
 induction n with
 |zero=>rfl
 |succ n ih=>exact (congrArg (·+(f n+f' n)) ih).trans WO
theorem mT {c:Int}(n:Nat):fF (λZ=>c) n=n*c:=by
 induction n with
 |zero=>exact (Int.zero_mul c).symm
 |succ n ih=>
  refine (?_:fF (λZ=>c) n+c=((n+1:Nat):Int)*c);rw [ih,Int.natCast_add,Int.add_mul];refine (?_:_=_+1*c);rw [Int.one_mul]
noncomputable def mi (f:Nat):ON->Int
 |[]=>0
 |o::l=>ind f o+mi f l
noncomputable def cnt (f:Nat):Option ON->Int
 |none=>0
 |some l=>mi f l
noncomputable abbrev kB (ps:Nat->Pr)(f:Nat)(n:Nat):Int:=fF (λj=>cnt f (ps j).fl) n
def fM.ZF (w:W)(Z:Prop):Prop:=∀(mem:∀i,i<24->∀sl,(w.ps i).fl=some sl->∀(n:Nat) f,sl[n]?=some (some f)->f∈w.fs) (bP:∀f,f∈w.fs->kB w.ps f 24<=w.bP f),Z
def fM (w):=∀Z:Prop,fM.ZF w Z->Z
theorem fM.mk {w}:fM.ZF w (fM w):=λmem bP _ Z=>Z mem bP
def fM.mem {w}(Z:fM w):=Z _ λmem bP=>mem
def fM.bP {w}(Z:fM w):=Z _ λmem bP=>bP
theorem Kh {f o}:0<=ind f o:=by unfold ind;split<;>decide
theorem zt {f}:∀{l},0<=mi f l
 |[]=>Int.le_refl _
 |o::l=>Int.add_nonneg Kh zt
theorem DH {f}:∀{o},0<=cnt f o
 |none=>Int.le_refl _
 |some _=>zt
theorem YH {ps f}(n):0<=kB ps f n:=pD n λZ Z=>DH
theorem WQ {a b c:Int}:b+a=c+a+b - c:=by omega
theorem WR {a b c d:Int}:a+(b+c - d)=a+b+c - d:=by omega
theorem vM:∀{n:Nat},l[n]?=some o->mi f (l.set n o')=mi f l+ind f o' - ind f o:=by
 induction l with
 |nil=>exact λh=>ip rfl h
 |cons a l ih=>exact λ{n}=>Nat.casesOn n (λh=>Option.some.inj h▸WQ) λn h=>(congrArg (ind f a+·) (ih (n:=n) h)).trans WR
theorem Ki:∀{n:Nat},l[n]?=some (some f)->1<=mi f l:=by
 induction l with
 |nil=>exact λh=>ip rfl h
 |cons a l ih=>exact λ{n}=>Nat.casesOn n (λh=>Int.le_trans (Int.le_of_eq (if_pos (Option.some.inj h):ind f a=1).symm) (Int.le_add_of_nonneg_right zt)) λn h=>Int.le_trans (ih (n:=n) h) (Int.le_add_of_nonneg_left Kh)
theorem DI (n)(h:∀j,j<n->(YI j).fl=(ps j).fl):kB YI f n=kB ps f n:=kA n λj hj=>congrArg (cnt f) (h j hj)
theorem rV (n)(hi:i<n)(h:∀j,j≠i->(YI j).fl=(ps j).fl):kB YI f n=kB ps f n+cnt f (YI i).fl - cnt f (ps i).fl:=mf n hi λj hj=>congrArg (cnt f) (h j hj)
theorem OJ {ps f i}(n)(h:i<n):cnt f (ps i).fl<=kB ps f n:=rT (f:=λj=>cnt f (ps j).fl) n h λZ Z=>DH
section
variable {w w':W}
theorem fM.congr (h:fM w)(hp:∀j,(w'.ps j).fl=(w.ps j).fl) (hf:w'.fs=w.fs) (hh:w'.bP=w.bP):fM w':=
 (.mk (λi hi sl hs=>by rw [hf];exact h.mem i hi sl (by rw [<- hp];exact hs)) (λf pz=>by rw [hh,DI 24 (λj Z=>hp j)];exact h.bP f (by rw [<- hf];exact pz)))
theorem fM.one (h:fM w)(hi:i<24)(hs:(w.ps i).fl=some sl){n:Nat}(hn:sl[n]?=some (some f)):f∈w.fs/\1<=w.bP f:=by
 have hm:=h.mem i hi sl hs n f hn;refine ⟨hm,?_⟩;refine Int.le_trans (Int.le_trans ?_ (OJ 24 hi)) (h.bP f hm);rw [hs];exact Ki hn
noncomputable def gk (w:W)(i n f:Nat)(sl:ON):W:=(w.aL i (mS (w.ps i) (some (sl.set n none)))).km f (w.bP f - 1)
noncomputable def Kj (w:W)(i n f:Nat)(sl:ON):W:=(w.aL i (mS (w.ps i) (some (sl.set n (some f))))).km f (w.bP f+1)
theorem WS:∀k,k≠i->((w.aL i (mS P o)).ps k).fl=(w.ps k).fl:=λk hk=>by rw [aD hk]
theorem fM.slot (h:fM w)(hi:i<24)(hs:(w.ps i).fl=some sl)(hn:sl[n]?=some o){d:Nat->Int}(hd:∀f,f∈w.fs->d f=w.bP f+ind f o' - ind f o)
  (ho:∀f,o'=some f->f∈w.fs) {w':W} (hp:w'.ps=(w.aL i (mS (w.ps i) (some (sl.set n o')))).ps) (hf:w'.fs=w.fs) (hh:∀f,f∈w.fs->w'.bP f=d f):fM w':=by
 refine (.mk (λk hk sl' qm m f hm=>?_) (λf pz=>?_))
 ·rw [hf]
  rw [hp] at qm;by_cases e:k=i
  ·subst e
   replace qm:=(ah)▸qm;cases qm;by_cases e:m=n
   ·subst e
    rw [List.getElem?_set_self (jD hn)] at hm;exact ho f (Option.some.inj hm)
   ·rw [List.getElem?_set_ne (Ne.symm e)] at hm
    exact h.mem k hk sl hs m f hm
  ·rw [aD e] at qm
   exact h.mem k hk sl' qm m f hm
 ·rw [hf] at pz
  have h0:=h.bP f pz;simp only [hh f pz,hd f pz,hp,rV (ps:=w.ps) 24 hi WS,ah,hs];refine (?_:kB w.ps f 24+mi f (sl.set n o') - mi f sl<=w.bP f+ind f o' - ind f o);rw [vM hn];grind only
theorem fM.close (h:fM w)(hi:i<24)(hs:(w.ps i).fl=some sl){n:Nat}(hn:sl[n]?=some (some f)):fM (gk w i n f sl):=by
 refine h.slot hi hs hn (o':=none) (d:=(gk w i n f sl).bP) (λf' pz=>?_) (λZ=>ip rfl) rfl rfl (λZ Z=>rfl);refine (?_:(if f'=f then w.bP f - 1 else w.bP f')=w.bP f'+ind f' none - ind f' (some f));have h0:ind f' none=0:=if_neg (ip rfl);by_cases e:f'=f
 ·subst e;rw [if_pos rfl,h0,show ind f' (some f')=1 from if_pos rfl];simp+arith only
 ·rw [if_neg e,h0,show ind f' (some f)=0 from if_neg (λe'=>e (Option.some.inj e').symm)];simp+arith only
theorem fM.dup (h:fM w)(hi:i<24)(hs:(w.ps i).fl=some sl){n:Nat}(hn:sl[n]?=some none)(hf:f∈w.fs):fM (Kj w i n f sl):=by
 refine h.slot hi hs hn (o':=some f) (d:=(Kj w i n f sl).bP) (λf' pz=>?_) (λf' e=>by cases e;exact hf) rfl rfl (λZ Z=>rfl);refine (?_:(if f'=f then w.bP f+1 else w.bP f')=w.bP f'+ind f' (some f) - ind f' none);have h0:ind f' none=0:=if_neg (ip rfl);by_cases e:f'=f
 ·subst e;rw [if_pos rfl,h0,show ind f' (some f')=1 from if_pos rfl];omega
 ·rw [if_neg e,h0,show ind f' (some f)=0 from if_neg (λe'=>e (Option.some.inj e').symm)];omega
theorem aae {a b:Int}:a+1+b=a+(1+b):=by omega
theorem WT {a b:Int}:a+b=a+(0+b):=by omega
theorem Hc:∀{w:W},(w.lG L).bP f=w.bP f+mi f (L.map λp=>some p.2):=by
 induction L with
 |nil=>exact (Int.add_zero _).symm
 |cons p L ih=>
  intro w;refine (ih (w:=w.km p.2 (w.bP p.2+1))).trans ?_;refine (?_:(if f=p.2 then w.bP p.2+1 else w.bP f)+_=w.bP f+(ind f (some p.2)+_));by_cases e:f=p.2
  ·have e2:ind p.2 (some p.2)=1:=if_pos rfl
   rw [if_pos e,e,e2];exact aae
  ·have e2:ind f (some p.2)=0:=if_neg λe'=>e (Option.some.inj e').symm
   rw [if_neg e,e2];exact WT
theorem BR:mi f (l++l')=mi f l+mi f l':=by
 induction l with
 |nil=>exact (Int.zero_add _).symm
 |cons o l ih=>exact (congrArg (ind f o+·) ih).trans (Int.add_assoc _ _ _).symm
theorem Kk:∀k,k<=sl.length->mi f ((jC sl k).map λp=>some p.2)=mi f (sl.take k):=by
 intro k;induction k with
 |zero=>
  intro _;exact rfl
 |succ k ih=>
  intro h;have hk:k<sl.length:=h;have hg:sl[k]?=some sl[k]:=List.getElem?_eq_getElem hk;simp only [pC,List.map_append,BR,ih (Nat.le_of_lt hk),jX hg,BR];congr 1;unfold pairOf;rw [hg];induction sl[k] with
  |none=>show (0:Int)=ind f none+0;rw [show ind f none=0 from if_neg (ip rfl)];rfl
  |some f'=>rfl
theorem fM.fork (h:fM w)(hi:i<24)(hj:j<24)(L6:(w.ps j).fl=none)(hs:(w.ps i).fl=some sl)(hl:sl.length=6):fM (d6 w i j sl):=by
 have e1:(d6 w i j sl).fs=w.fs:=(bE (w:={w with next:=w.next+1,fst:=some (w.fst.getD j)}) (L:=jC sl 6)).2.1;have e2:(d6 w i j sl).ps=(w.aL j (kz w.next i sl)).ps:=by
  refine (?_:(W.aL _ j _).ps=_);unfold W.aL;simp only [];rw [(bE (w:={w with next:=w.next+1,fst:=some (w.fst.getD j)}) (L:=jC sl 6)).1]
 refine (.mk (λk hk sl' qm m f hm=>?_) (λf pz=>?_))
 ·rw [e1]
  rw [e2] at qm;by_cases e:k=j
  ·subst e
   replace qm:=(ah)▸qm;cases qm;exact h.mem i hi sl hs m f hm
  ·rw [aD e] at qm
   exact h.mem k hk sl' qm m f hm
 ·rw [e1] at pz
  rw [e2,rV (ps:=w.ps) 24 hj (λk hk=>by rw [aD hk]),ah,L6];refine (?_:kB w.ps f 24+mi f sl - 0<=(W.lG _ (jC sl 6)).bP f);simp only [Hc,Kk 6 (by rw [hl];exact Nat.le_refl _),List.take_of_length_le (by rw [hl];exact Nat.le_refl _)];show _<=w.bP f+_;have:=h.bP f pz;omega
theorem fM.drop (h:fM w)(hi:i<24)(hp:∀k,k≠i->(w'.ps k).fl=(w.ps k).fl) (hn:(w'.ps i).fl=none) (hf:w'.fs=w.fs) (hh:w'.bP=w.bP):fM w':=by
 refine (.mk (λk hk sl hs=>?_) (λf pz=>?_))
 ·by_cases e:k=i
  ·subst e;rw [hn] at hs;injection hs
  ·rw [hp k e] at hs;rw [hf];exact h.mem k hk sl hs
 ·rw [hf] at pz
  rw [hh,rV (ps:=w.ps) 24 hi hp,hn];have:=h.bP f pz;have h0:0<=cnt f (w.ps i).fl:=DH;show _+0 - _<=_;omega
end
noncomputable def W.OK (w:W)(f:Nat):W:={w with bP:=λb=>if b=f then 1 else w.bP b,fs:=f::w.fs}
noncomputable def W.mkP (w:W):W:={w with eu:=w.eu+1}
noncomputable def W.enF (w:W)(f:Nat):W:={w with bP:=λb=>if b=f then 1 else w.bP b,fs:=f::w.fs,dG:=w.dG+1}
noncomputable def QM (w:W)(f1 f2:Nat):W:=(w.mkP.enF f1).enF f2
noncomputable def iS (w:W)(i f1 f2 n1 n2:Nat)(sl:ON):W:=(QM w f1 f2).aL i (mS (w.ps i) (some ((sl.set n1 (some f1)).set n2 (some f2))))
theorem Kl:(dictPut z v es).length<=es.length+1:=by
 unfold dictPut;split
 ·rw [List.length_map];exact Nat.le_succ _
 ·rw [List.length_append];exact Nat.le_refl _
theorem Km (h:e∈dictPut z v es):e∈es\/e.2=v:=by
 unfold dictPut at h;split at h
 ·refine aQ (List.mem_map.mp h) λx hx dp=>?_
  subst dp;split
  ·exact .inr rfl
  ·exact .inl hx
 ·rcases List.mem_append.mp h with h|h
  ·exact .inl h
  ·exact .inr (by rw [List.mem_singleton.mp h])
section
theorem OL (h:(ev C n).E a m H λv H=>sC H Q v):(ev C (n+1)).E (.kU a) m H Q:=h
theorem Ko (h0:0<=z)(h1:z<1000)(h:alloc H .bytes Q):sC H Q (.int z):=.mk _ h0 h1 h
theorem Kq (hp:H p=some (.dict es))(hl:es.length<1000)(h:q (H.upd p (.dict (dictPut z v es)))):oX H (.ref p) (.int z) v q:=.dict _ _ _ hp hl h
theorem Kr (R:Rel g ow w H)(he1:Pu (ev (aj (k+1)) n) e1 m H (.int z))(ZJ:Pu (ev (aj (k+1)) n) e2 m H (.int 4))
  (hQ:∀az H' p,Rel g az w H'->Ext ow az->b9 az H' p->Q (.ref p) H'):(ev (aj (k+1)) (n+1)).E (.new .eF [e1,e2]) m H Q:=by
 refine nj rfl (aT (he1 _ (aT (ZJ _ (cA λa ha=>?_)))));refine bo rfl rfl rfl (cG (bD (bh rfl) cS (BM (t:=false) rfl (aR (ar (ax ?_))))));refine bH (λZ h=>dY rfl h) rfl rfl (Nat.zero_lt_succ 0) rfl λhb=>bH (λZ h=>dY rfl h) rfl rfl hb rfl λhb=>?_;refine eW (OL (dY rfl (Ko (by decide) (by decide) λa1 h1=>dY rfl ?_)));have e1:a1≠a:=λe=>by rw [e,ak] at h1;injection h1
 rw [dy e1.symm];rw [aY e1] at h1;refine gz rfl hb rfl λhb=>bH (λZ h=>da h) rfl rfl hb rfl λhb=>bH (λZ h=>da h) rfl rfl hb rfl λhb=>bH (λZ h=>Wt h) rfl rfl hb rfl λhb=>bH (λZ h=>Wt h) rfl rfl hb rfl λhb=>ar (cC ⟨rfl,?_⟩);have R1:=R.dM h1 (m:=false) (o:=.bytes);have h3:(H.upd a1 .bytes) a=none:=(aY e1.symm _).trans ha;exact hQ _ _ a (R1.new h3 (l:=.pipe) (o:=.inst .eF (rO z (.ref a1) true true)) (λZ Z=>ay rfl)) ((aq R h1 _).trans (aq R1 h3 _)) (.mk (aC _ _ _) (.mk _ _ _ _ (ak _ _ _)))
theorem OM (R:Rel g ow w H)(hn:w.eu<900)(hQ:∀az H' p,Rel g az w.mkP H'->Ext ow az->b9 az H' p->Q (.ref p) H'):(aj (k+2)).aB .bj .uI [.ref g.b7] H Q:=by
 refine bo rfl rfl rfl (dT (Kr R (bS rfl R.b7.2 rfl) (bS rfl R.b7.2 rfl) λiR H1 p R1 E1 hp=>?_));refine R1.bM.el λod es hd hl hv=>?_;refine xQ (dY rfl (gj rfl R1.b7.2 rfl (gj rfl R1.b7.2 rfl (Kq hd (Nat.lt_of_le_of_lt hl (Nat.lt_trans hn (by decide))) ?_))));have ne:g.bM≠g.b7:=lF od R1.b7.1 (ay rfl);have ht:=(aY ne.symm (.dict (dictPut w.eu (.ref p) es))).trans R1.b7.2;refine l5 (dY rfl (iH ht rfl (da (rQ (cW (fs':=[(.et,.int 4),(.eT,.int (w.eu+1:Nat)),(.dh,.ref g.bM)]) ht rfl rfl rfl (b6 (bh rfl) (bA ?_)))))));rw [dy ne];have R2:=R1.Oi (n:=w.eu+1) (Nat.le_succ _);have S2:=hU.upd (ow:=iR) H1 (a:=g.b7) (.inst .bj [(.et,.int 4),(.eT,.int (w.eu+1:Nat)),(.dh,.ref g.bM)]);have O2:Off iR H1 g.b7 .pipe:=Off.w4 R1.b7.1 (ay rfl);have FW:=hp.sim S2 O2;have R3:=R2.Bz (es:=dictPut w.eu (.ref p) es) (Nat.le_trans Kl (Nat.succ_le_succ hl)) (λe he=>by
  rcases Km he with h|h
  ·refine aQ (hv e h) λp' e' Cu=>?_
   exact ⟨p',e',Cu.sim S2 O2⟩
  ·exact ⟨p,h,FW⟩)
 exact hQ _ _ p R3 E1 (FW.sim (hU.upd _ _) (Off.w4 od (ay rfl)))
theorem Ff (R:Rel g ow w H)(hn:w.dG+z<=30)(hQ:Q .none H):(aj (k+1)).aB .aP .jk [.ref g.cg,.int z] H Q:=by
 refine R.cg _ λot q45=>?_;refine q45 _ λdv o vs ht oo ho hl hv=>?_;refine bo rfl rfl rfl (cG (iJ (p9 (zh (bS rfl ht rfl) (zd ho (by omega) (dY rfl (pA ?_)))))));exact gj rfl ht rfl (Tj (t:=false) (decide_eq_false (by omega)) (aR (ar (ax (ar (cC hQ))))))
theorem j3 (hp:H p=some (.list xs))(hl:xs.length<1000)(h:Q .none (H.upd p (.list (xs++[u])))):pX C H .append (.ref p) .eL [u] Q:=MO.mk _ _ _ hp hl h
theorem Ks (R:Rel g ow w H)(hf:f∈w.fs)(hn:w.dG+1<=30)(hQ:∀H',Rel g ow {w with dG:=w.dG+1} H'->(∀b,ow b≠.Bw->H' b=H b)->Q (.ref f) H'):(aj (k+2)).aB .aP .rj [.ref g.cg,.ref f] H Q:=by
 refine R.Z0 λot dv o vs ht oo ho hl hv=>?_;refine bo rfl rfl rfl (bK (fW (bh rfl) ht rfl rfl rfl (ao cS aA) (Ff R (z:=1) hn ?_)));refine bK (e7 (bS rfl ht rfl) (l7 ho ⟨rfl,ao (bh rfl) aA _ (j3 ho (by omega) (b6 (bh rfl) (bA (hQ _ ?_ λb hb=>aY (λe=>hb (by rw [e];exact oo)) _))))⟩));refine R.setOpen ht oo (by rw [List.length_append];exact Nat.succ_le_succ hl) λv GF=>?_;rcases List.mem_append.mp GF with h|h
 ·exact hv v h
 ·exact ⟨f,hf,List.mem_singleton.mp h⟩
theorem Rel.OK (R:Rel g ow w H)(hn:f∉w.fs)(hf:fD ow H 1 f):Rel g ow (w.OK f) H:=by
 have:Rel g ow {w with bP:=(w.OK f).bP} H:=
  (.mk R.aM R.tab R.je R.proc R.aj R.parts R.cg R.b7 R.bM (λf' pz=>by
   have h2:f'∈w.fs:=pz;have ne:f'≠f:=λe=>hn (by simp only [<- e];exact h2);refine (?_:fD ow H (if f'=f then 1 else w.bP f') f');rw [if_neg ne];exact R.file f' h2))
 exact this.Z3 hf (if_pos rfl)
def Ts:List S:=[(.asg .br (.new .bV [(.kL .sk),(.var .eh),(.jq (.var .eh))])),(.ag (.var .br) .b5 (.var .b5)),(.expr (.aB (.var .lj) .eL [(.aB (.var .aa) .rj [(.var .br)])]))]
theorem Fg (R:Rel g ow w H)(hn:w.dG+1<=30)(hp:b9 ow H p)(hl:es.length<100)(oe:ow en=.k true (.list es))
  (l1:look .aa m=some (.ref g.cg))(l2:look .eh m=some (.bool rd))(l3:look .b5 m=some (.ref p))(l4:look .lj m=some (.ref en))
  (hK:∀az H' f,f∉w.fs->Rel g az (w.enF f) H'->(∀b mm o,ow b=.k mm o->b≠en->az b=.k mm o)->b9 az H' p->az en=.k true (.list (es++[.ref f]))->F .next (put .br (.ref f) m) H'):
  eK (ev (aj (k+3)) (n+5)) Ts m H F:=by
 refine dT (nj rfl (aT (tR rfl (aT (dY l2 (aT (zm (dY l2 (bq (cA λf hf=>?_))))))))));refine bo rfl rfl rfl ?_;refine bH (λZ h=>dY rfl h) rfl rfl (Nat.zero_lt_succ 0) rfl λhb=>bH (λZ h=>dY rfl h) rfl rfl hb rfl λhb=>bH (λZ h=>dY rfl h) rfl rfl hb rfl λhb=>?_;refine bH (λZ h=>da h) rfl rfl hb rfl λhb=>bH (λZ h=>da h) rfl rfl hb rfl λhb=>bH (λZ h=>fE h) rfl rfl hb rfl λhb=>bH (λZ h=>fE h) rfl rfl hb rfl λhb=>bH (λZ h=>da h) rfl rfl hb rfl λhb=>ar (cC ⟨rfl,?_⟩);have hff:f∉w.fs:=λh=>by
  refine (R.file f h).el λZ Z Z Z hc Z=>?_;simp only [hf] at hc;injection hc
 refine cH (bh (lk (by decide) l3)) (bh aG) (cW (fs':=kX rd (!rd) 1 p) (ak _ _ _) rfl rfl rfl ?_);rw [jU];have R1:=R.new hf (l:=.file) (o:=.inst .bV (kX rd (!rd) 1 p)) (λZ Z=>ay rfl);have G1:=fi (ow:=ow) (l:=.file) (o:=.inst .bV (kX rd (!rd) 1 p)) hf;have tG:b9 (ow.set f .file) (H.upd f (.inst .bV (kX rd (!rd) 1 p))) p:=by
  refine hp.el λop id rv x y hq=>?_;exact (.mk ((G1 _ _ hq).1.trans op) (.mk id rv x y ((G1 _ _ hq).2)))
 have R2:=R1.OK hff (.mk (aC _ _ _) (.mk rd (!rd) p (ak _ _ _) tG));refine R2.Z0 λot dv o vs ht oo ho L8 hv=>?_;have YJ:(ow.set f .file) en=.k true (.list es):=(G1 _ _ (R.aM _ _ _ oe)).1.trans oe;refine bK (e7 (bh (lk (by decide) l4)) (l7 (R2.aM _ _ _ YJ) ⟨rfl,aT (fW (bh (lk (by decide) l1)) ht rfl rfl rfl (ao (bh aG) aA) (Ks R2 (.head _) hn λH3 R3 K3=>?_))⟩));refine cA (j3 (R3.aM _ _ _ YJ) (by exact Nat.lt_of_lt_of_le ‹_› (by decide)) (ar (hK _ _ f hff (R3.mod YJ (l:=.k true (.list (es++[.ref f]))) (λZ Z e=>by cases e;rfl)) (λb mm o hb dw=>?_) ?_ (aC _ _ _))))
 ·exact (bC dw _).trans ((G1 _ _ (R.aM _ _ _ hb)).1.trans hb)
 ·refine tG.el λop id rv x y hq=>?_
  have ne:p≠en:=lF op YJ (ay rfl);exact (.mk ((bC ne _).trans op) (.mk id rv x y ((aY ne _).trans ((K3 p (by rw [op];exact ay rfl)).trans hq))))
theorem zu (R:Rel g ow w H)(hn:w.dG+2<=30)(uc:w.eu<900)(hQ:∀az H' f1 f2 v,f1∉w.fs->f2∉w.fs->f2≠f1->Rel g az (QM w f1 f2) H'->Ext ow az->bQ az v (.tuple [.ref f1,.ref f2])->Q v H'):
  (aj (k+4)).aB .aP .jl [.ref g.cg] H Q:=by
 refine R.cg _ λot q46=>?_;refine q46 _ λdv o vs ht oo ho hl hv=>?_;refine bo rfl rfl rfl (bK (fW (bh rfl) ht rfl rfl rfl (ao cS aA) (Ff R (z:=2) hn ?_)));refine dT (fW (bS rfl ht rfl) R.b7.2 rfl rfl rfl aA (OM R uc λiR H1 p R1 E1 hp=>?_));refine dT (gG aA (λen WU=>?_));have R2:=R1.dM WU (m:=true) (o:=.list []);have G2:=fi (ow:=iR) (l:=.k true (.list [])) (o:=.list []) WU;have FW:b9 (iR.set en (.k true (.list []))) (H1.upd en (.list [])) p:=by
  refine hp.el λop id rv x y hq=>?_;exact (.mk ((G2 _ _ hq).1.trans op) (.mk id rv x y ((G2 _ _ hq).2)))
 refine l6 (vz (jB (ao ug (ao GW aA)) (λat' WV=>Tb (ak _ _ _) ?_)));have R3:=R2.dM WV (m:=false) (o:=.tuple [.bool true,.bool false]);have G3:=fi (ow:=iR.set en (.k true (.list []))) (l:=.k false (.tuple [.bool true,.bool false])) (o:=.tuple [.bool true,.bool false]) WV;have dw:at'≠en:=λe=>by rw [e,ak] at WV;injection WV
 have WI:b9 ((iR.set en (.k true (.list []))).set at' (.k false (.tuple [.bool true,.bool false]))) ((H1.upd en (.list [])).upd at' (.tuple [.bool true,.bool false])) p:=by
  refine FW.el λop id rv x y hq=>?_;exact (.mk ((G3 _ _ hq).1.trans op) (.mk id rv x y ((G3 _ _ hq).2)))
 refine ⟨ak _ _ _,?_⟩;refine Fg (rd:=true) R3 (show w.dG+1<=30 by exact Nat.le_of_lt ‹_›) WI (es:=[]) (by decide) (dw |> λh=>(bC h.symm _).trans (aC _ _ _)) rfl rfl rfl rfl λHT H4 f1 hf1 R4 E4 UL oe4=>?_;have WW:=E4 at' _ _ (aC _ _ _) dw;refine ⟨R4.aM _ _ _ WW,?_⟩;refine Fg (rd:=false) R4 (show w.dG+1+1<=30 by omega) UL (Nat.le_of_ble_eq_true rfl) oe4 rfl rfl rfl rfl λWX H5 f2 UM R5 E5 hp5 oe5=>?_;refine ⟨R5.aM _ _ _ (E5 at' _ _ WW dw),ax ?_⟩;have he:=R5.aM _ _ _ oe5;refine fU (xR (aT (ku (bh rfl) cS (qa he (by decide) (by decide) rfl (aT (ku (bh rfl) cS (qa he (by decide) (by decide) rfl (cA λat2 h2=>bA ?_))))))));have R6:=R5.dM h2 (m:=false) (o:=.tuple [.ref f1,.ref f2]);have WY:=λh=>UM (show f2∈f1::w.fs from h);refine hQ _ _ f1 f2 _ hf1 (λh=>WY (.tail _ h)) (λe=>WY (e▸.head _)) R6 (λb mm o hb=>?_) (.mk at2 rfl (aC _ _ _));have h1:=E1 _ _ _ hb;have nb:b≠en:=λe=>by rw [e] at h1;rw [R1.aM _ _ _ h1] at WU;injection WU
 have h3:=aq R2 WV (.k false (.tuple [.bool true,.bool false])) _ _ _ (aq R1 WU (.k true (.list [])) b mm o h1);exact aq R5 h2 (.k false (.tuple [.ref f1,.ref f2])) b mm o (E5 _ _ _ (E4 _ _ _ h3 nb) nb)
end
noncomputable def gR (w:W)(i:Nat)(h:Nat->Int)(sl:ON):W:=({w with bP:=h}:W).aL i (mS (w.ps i) (some sl))
def oB.ZF (w:W)(Z:Prop):Prop:=∀(eu:w.eu<900)(dG:w.dG<1000),Z
def oB (w):=∀Z:Prop,oB.ZF w Z->Z
theorem oB.mk:oB.ZF w (oB w):=λeu dG _ Z=>Z eu dG
def oB.eu (Z:oB w):=Z _ λeu dG=>eu
def oB.dG (Z:oB w):=Z _ λeu dG=>dG
section
variable {n k:Nat}
theorem DJ (R:Rel g ow w H)(hs:look .aa m=some (.ref g.aj))(h:Q (.ref g.tab) H):(ev C (n+3)).E (.attr (.attr (.var .aa) .cL) .aW) m H Q:=by
 obtain ⟨op,dv,hp⟩:=R.parts;exact EW hs R.aj.2 rfl hp rfl h
theorem OO (R:Rel g ow w H)(hs:look .aa m=some (.ref g.aj))(h:Q (.ref g.cg) H):(ev C (n+3)).E (.attr (.attr (.var .aa) .cL) .bX) m H Q:=by
 obtain ⟨op,dv,hp⟩:=R.parts;exact EW hs R.aj.2 rfl hp rfl h
theorem qI (R:Rel g ow w H)(ho:Pu (ev C n) o m H (.ref g.tab))(hl:∀nx last f u,look x (Oe g nx last f u)=none) (hm:(meths .aK x).isSome=true)
  (h:nH (ev C n) es m H λvs H=>C.aB .aK x (.ref g.tab::vs) H Q):(ev C (n+1)).E (.aB o x es) m H Q:=by
 refine R.tQ λZ run ht=>?_;exact vx (ho _ (jz ht.h rfl (hl _ _ _ _) ⟨hm,h⟩))
theorem jK (R:Rel g ow w H)(ho:Pu (ev C n) o m H (.ref g.aj))(hl:look x [(.cL,.ref g.parts)]=none)(hm:(meths .au x).isSome=true)
  (h:nH (ev C n) es m H λvs H=>C.aB .au x (.ref g.aj::vs) H Q):(ev C (n+1)).E (.aB o x es) m H Q:=
 vx (ho _ (jz R.aj.2 rfl hl ⟨hm,h⟩))
theorem xW {id z:Int}:fL w [.str .b5,.int id,.int z] 24=w:=by
 unfold fL;have:(λj=>if j<24/\bL [.str .b5,.int id,.int z] (w.ps j)=true then qU (w.ps j) else w.ps j)=w.ps:=funext λj=>if_neg (λh=>by
  have:=h.2;unfold bL at this;have:=(Bool.and_eq_true _ _▸this).2;have:=of_decide_eq_true this;induction hc:(w.ps j).cF<;>replace this:=(hc)▸this<;>cases this)
 rw [this]
theorem zv (R:Rel g ow w H)(hc:oB w)(hf:f∈w.fs)(h1:1<=w.bP f)(hQ:∀az H',Rel g az (w.km f (w.bP f - 1)) H'->Ext ow az->Q .none H'):(aj (k+4)).aB .au .kS [.ref g.aj,.ref f] H Q:=by
 refine (R.file f hf).el λof rd wr p Fh hp=>?_;refine R.cg _ λ_ q37=>?_;refine q37 _ λ_ _ _ Tq _ _ _ _=>?_;refine bo rfl rfl rfl (DC (bS rfl Fh rfl) (bK (vx (OO R rfl (jz Tq rfl rfl ⟨rfl,ao (bh rfl) aA _ (mP (G8 R (Nat.lt_trans hc.eu (by decide)) hc.dG of hp h1 Fh λiR H1 R1 E1 tG=>?_))⟩)))));refine tG.el λYC id rv x y hq=>?_;refine cG (bD (bh rfl) cR (ou (.xn _ rfl) (bT ?_)));refine bK (qI R1 (λQ h=>DJ R1 rfl h) (λZ Z Z Z=>rfl) rfl (aT (fW (bh rfl) hq rfl rfl rfl (ao (ig rfl) aA) (BO R1 (.mk YC (.mk id rv x y hq)) λoA H2 v R2 E2 FW hv=>cA ?_))));obtain ⟨id1,hv⟩:=hv;refine FW.el λop2 id rv x y hq=>?_;refine zk R2 hv rfl λH3 v3 R3 N3=>?_;rw [xW] at R3;have hq3:=(N3 p op2).trans hq;refine bK (qI R3 (λQ h=>DJ R3 rfl h) (λZ Z Z Z=>rfl) rfl (aT (fW (bh rfl) hq3 rfl rfl rfl (ao (ig rfl) aA) (BO R3 (.mk op2 (.mk id rv x y hq3)) λHT H4 v R4 E4 UL hv=>cA ?_))));obtain ⟨id1,hv⟩:=hv;refine zk R4 hv rfl λH5 v5 R5 N5=>?_;rw [xW] at R5;exact ar (ax (ar (cC (hQ _ _ R5 ((E1.trans E2).trans E4)))))
theorem vN (R:Rel g ow w H)(hc:oB w)(hi:i<24)(gQ:(w.ps i).fl=some sl)(hn:sl[n]?=some (some f))(hf:f∈w.fs)(h1:1<=w.bP f)
  (hQ:∀az H',Rel g az (gk w i n f sl) H'->Ext ow az->Q (.int 0) H'):(aj (k+5)).aB .au .dt [.ref g.aj,.ref (g.pa i),.int n] H Q:=by
 refine fq (R.files hi gQ) λcv nm tn rg d jv s A S=>?_;refine bo rfl rfl rfl (dT (fW (bS rfl A.h rfl) S.hd rfl rfl rfl (ao (bh rfl) aA) (OC R hi A S hn λH1 R1=>?_)));exact bK (jK R1 (bh rfl) rfl rfl (ao (bh rfl) aA _ (zv R1 (.mk hc.eu hc.dG) hf h1 λoA H2 R2 E2=>b6 cS (bA (hQ _ _ R2 E2)))))
theorem Ku (R:Rel g ow w H)(hi:i<24)(gQ:(w.ps i).fl=some sl)(hn:sl[n]?=some (some f))(SD:sl[n']?=some none)(rR:∀b,b<n'->∃f',sl[b]?=some (some f')) (hf:f∈w.fs) (h1:1<=w.bP f)
  (hQ:∀H',Rel g ow (Kj w i n' f sl) H'->Q (.int n') H'):(aj (k+5)).aB .au .Ax [.ref g.aj,.ref (g.pa i),.int n] H Q:=by
 refine fq (R.files hi gQ) λcv nm tn rg d jv s A S=>?_;refine bo rfl rfl rfl (dT (fW (bS rfl A.h rfl) S.hd rfl rfl rfl (ao (bh rfl) aA) (J7 S hn ?_)));refine dT (fW (bS rfl A.h rfl) S.hd rfl rfl rfl (ao (bh rfl) aA) (zl R hi A S SD rR λH1 R1=>?_));refine R1.cg _ λ_ q38=>?_;refine q38 _ λ_ _ _ Tq _ _ _ _=>?_;exact bK (vx (OO R1 rfl (jz Tq rfl rfl ⟨rfl,ao (bh rfl) aA _ (mP (BN R1 hf h1 λH2 R2=>b6 (bh rfl) (bA (hQ _ R2))))⟩)))
theorem BS (R:Rel g ow w H)(hn:w.dG+2<=30)(uc:w.eu<900)(hi:i<24)(gQ:(w.ps i).fl=some sl)(h2:2<=(sl.filter Option.isNone).length)(Mb:sl[n1]?=some none)(rR:∀b,b<n1->∃f',sl[b]?=some (some f'))
  (aej:n1<n2) (aah:sl[n2]?=some none) (WZ:∀b,b<n2->b≠n1->∃f',sl[b]?=some (some f'))
  (hQ:∀az H' f1 f2 v,f1∉w.fs->f2∉w.fs->f2≠f1->Rel g az (iS w i f1 f2 n1 n2 sl) H'->Ext ow az->bQ az v (.tuple [.int n1,.int n2])->Q v H'):
  (aj (k+5)).aB .au .b5 [.ref g.aj,.ref (g.pa i)] H Q:=by
 refine fq (R.files hi gQ) λcv nm tn rg d jv s A S=>?_;refine bo rfl rfl rfl (cG (iJ (fW (bS rfl A.h rfl) S.hd rfl rfl rfl aA (J8 R S λiR H1 R1 E1=>?_))));refine da (BM (t:=false) (decide_eq_false (by omega)) (aR (ar (ax ?_))));refine R1.cg _ λ_ q39=>?_;refine q39 _ λ_ _ _ Tq _ _ _ _=>?_;refine oq (vx (OO R1 rfl (jz Tq rfl rfl ⟨rfl,cA (mP (zu R1 hn uc λoA H2 f1 f2 v q1 q2 q3 R2 E2 vG=>?_))⟩)));refine vG _ λa q40 hv=>?_;clear vG;obtain rfl:=q40;refine vw (R2.aM _ _ _ hv) rfl ?_;refine fq (R2.files hi gQ) λcv nm tn rg d jv s A S=>?_;refine fU (xR (aT (fW (bS rfl A.h rfl) S.hd rfl rfl rfl (ao (bh rfl) aA) (zl R2 hi A S Mb rR λH3 R3=>aT ?_))));refine fq (R3.files hi (sl:=sl.set n1 (some f1)) (by rw [ah];rfl)) λcv nm tn rg d jv s A S=>?_;refine fW (bS rfl A.h rfl) S.hd rfl rfl rfl (ao (bh rfl) aA) (zl R3 hi A S (n:=n2) ?_ ?_ λH4 R4=>cA λa4 h4=>bA ?_)
 ·rw [List.getElem?_set_ne (by grind only)];exact aah
 ·intro b hb
  by_cases e:b=n1
  ·subst e;exact ⟨f1,List.getElem?_set_self (jD Mb)⟩
  ·rw [List.getElem?_set_ne (λh=>e h.symm)];exact WZ b hb e
 ·rw [dn,ah] at R4
  exact hQ _ _ f1 f2 _ q1 q2 q3 (R4.dM h4 (m:=false)) ((E1.trans E2).trans (aq R4 h4 _)) (.mk a4 rfl (aC _ _ _))
theorem BU (R:Rel g ow w H)(hi:i<24)(h1:(w.ps i).st≠.ae)(h2:(w.ps i).aS=aS)(hu:∀j,j<24->(w.ps j).st≠.ae->(w.ps j).aS=aS->j=i) (hQ:Q (.ref (g.pa i)) H):
  (aj (k+5)).aB .au .ab [.ref g.aj,.int aS] H Q:=by
 refine R.pw hi λZ Z Z Z Z Z A=>?_;refine bo rfl rfl rfl (dT (qI R (λQ h=>DJ R rfl h) (λZ Z Z Z=>rfl) rfl (ao (bh rfl) aA _ (Ot R hi h1 h2 hu ?_))));exact cG (bD (bh rfl) cR (jW (.xn _ rfl) (aR (ar (ax (b6 (bh rfl) (bA hQ)))))))
theorem BV (R:Rel g ow w H)(hi:i<24)(hu:(w.ps i).st≠.ae)(GD:∃j,j<24/\(w.ps j).st=.ae) (gQ:(w.ps i).fl=some sl) (hF:∀(n:Nat) f,sl[n]?=some (some f)->f∈w.fs/\1<=w.bP f)
  (hQ:∀j az H',j<24->(w.ps j).st=.ae->Rel g az (d6 w i j sl) H'->Ext ow az->Q (.int w.next) H'):(aj (k+5)).aB .au .lr [.ref g.aj,.ref (g.pa i)] H Q:=by
 refine bo rfl rfl rfl (dT (qI R (λQ h=>DJ R rfl h) (λZ Z Z Z=>rfl) rfl (aT (dY rfl (aT (OO R rfl (cA (OH R hi hu GD gQ hF λj iR H1 hj Tr R1 E1=>?_))))))));refine lI (Rel.at R1 hj) λZ Z Z Z Z Z A=>?_;exact cG (bD (bS rfl A.h rfl) cR (ou .nn (aR (ar (ax (b6 (bS rfl A.h rfl) (bA (hQ j _ _ hj Tr R1 E1))))))))
theorem Kv (R:Rel g ow w H)(hi:i<24)(hc:∃j,j<24/\eB w i j=true)
  (hR:∀j az H' v,j<24->eB w i j=true->(w.ps j).st=.bc->Rel g az (w.aL j kP) H'->Ext ow az->bQ az v (.tuple [.int (w.ps j).aS,.int (w.ps j).status])->Q v H')
  (hS:∀az H',(∀j,j<24->eB w i j=true->(w.ps j).st≠.bc)->Rel g az (w.aL i {w.ps i with st:=.aU,cF:=.child (w.ps i).aS}) H'->Ext ow az->Q .none H'):
  (aj (k+5)).aB .au .fw [.ref g.aj,.ref (g.pa i)] H Q:=
 bo rfl rfl rfl (fU (qI R (λQ h=>DJ R rfl h) (λZ Z Z Z=>rfl) rfl (ao (bh rfl) aA _ (Ou R hi hc (λj Z Z Z a b c d e f=>bA (hR j _ _ _ a b c d e f)) (λZ Z a b c=>bA (hS _ _ a b c))))))
theorem OP:∀k,(jC sl k).Pairwise (λa b=>a.1<b.1):=by
 intro k;induction k with
 |zero=>
  exact .nil
 |succ k ih=>
  rw [pC];refine List.pairwise_append.mpr ⟨ih,?_,λa ha b hb=>?_⟩
  ·induction pairOf sl k with
   |none=>exact .nil
   |some p=>exact List.pairwise_singleton _ _
  ·induction hp:pairOf sl k with
   |none=>replace hb:=(hp)▸hb;contradiction
   |some p=>
    rw [hp] at hb;simp only [List.mem_singleton.mp hb,(xU hp).1];exact (vL ha).1
theorem Hd (R:Rel g ow w H)(hc:oB w)(hF:fM w)(hi:i<24)(gQ:(w.ps i).fl=some sl)(hQ:∀h' sl' az H',fM (gR w i h' sl')->Rel g az (gR w i h' sl') H'->Ext ow az->Q .none H'):
  (aj (k+6)).aB .au .rm [.ref g.aj,.ref (g.pa i)] H Q:=by
 refine fq (R.files hi gQ) λcv nm tn rg d jv s A S=>?_;refine bo rfl rfl rfl (cG (bD (bS rfl A.h rfl) cR (ou (.xn _ rfl) (bT ?_))));refine JN (vz (fW (bS rfl A.h rfl) S.hd rfl rfl rfl aA (BL R S λiR H1 v vs R1 E1 vG j0=>?_)));refine vG _ λav q41 hv=>?_;clear vG;obtain rfl:=q41;refine jA (R1.aM _ _ _ hv) ?_;refine fV (λl m H'=>∃h' sl' az,fM (gR w i h' sl')/\Rel g az (gR w i h' sl') H'/\Ext iR az/\(∀p,p∈(jC sl 6).drop l->sl'[p.1]?=some (some p.2))/\look .aa m=some (.ref g.aj)/\look .ab m=some (.ref (g.pa i))) ?_ ?_ ?_
 ·intro l v m H' K GF mQ hK
  refine Qb mQ λh' sl' az F' R' E' hd l1 l2=>?_;refine ⟨R'.aM _ _ _ (E' _ _ _ hv),?_⟩;obtain ⟨p,hp,q42⟩:=j0.at GF;refine q42 _ λt aai ht=>?_;clear q42;obtain rfl:=aai;refine zq (R'.aM _ _ _ (E' _ _ _ ht)) ?_;have fX:=jD hp;have hdr:(jC sl 6).drop l=p::(jC sl 6).drop (l+1):=by rw [List.drop_eq_getElem_cons fX];rw [List.getElem?_eq_getElem fX] at hp;rw [Option.some.inj hp]
  have qm:=hd p (by rw [hdr];exact .head _);have Tt:((gR w i h' sl').ps i).fl=some sl':=by unfold gR;rw [ah];rfl
  obtain ⟨f1,f2⟩:=F'.one hi Tt qm;have OG:=lk (x:=.br) (v:=.ref p.2) (y:=.aa) (by decide) (lk (x:=.bF) (v:=.int p.1) (y:=.aa) (by decide) l1);have QK:=lk (x:=.br) (v:=.ref p.2) (y:=.ab) (by decide) (lk (x:=.bF) (v:=.int p.1) (y:=.ab) (by decide) l2);refine bK (jK R' (bh OG) rfl rfl (ao (bh QK) (ao (bh (lk (by decide) aG)) aA) _ (vN R' (.mk hc.eu hc.dG) hi Tt qm f1 f2 λoA H2 R2 E2=>ar (hK _ _ ?_))));have e:gk (gR w i h' sl') i p.1 p.2 sl'=gR w i ((gk (gR w i h' sl') i p.1 p.2 sl').bP) (sl'.set p.1 none):=by
   refine (?_:W.km ((({w with bP:=h'}:W).aL i (mS (w.ps i) (some sl'))).aL i (mS ((gR w i h' sl').ps i) (some (sl'.set p.1 none)))) p.2 _=_);rw [dn,show (gR w i h' sl').ps i=mS (w.ps i) (some sl') from ah];rfl
  have F2:=F'.close hi Tt qm;rw [e] at R2 F2;refine ⟨_,_,oA,F2,R2,E'.trans E2,λp' Cu=>?_,OG,QK⟩;have:=hd p' (by rw [hdr];exact .tail _ Cu);rw [List.getElem?_set_ne ?_]
  ·exact this
  ·have:=(OP (sl:=sl) 6).drop (i:=l)
   rw [hdr] at this;exact Nat.ne_of_lt ((List.pairwise_cons.mp this).1 p' Cu)
 ·intro m H' mc
  refine Qb mc λh' sl' az F' R' E' hd l1 l2=>?_;refine ⟨R'.aM _ _ _ (E' _ _ _ hv),ax (ar (ax ?_))⟩;refine R'.pw hi λZ Z Z Z Z Z A=>?_;exact cG (bD (bS l2 A.h rfl) cR (ou .nn (aR (ar (ax (ar (cC (hQ _ _ _ _ F' R' (E1.trans E')))))))))
 ·refine ⟨w.bP,sl,iR,?_,?_,.rfl',λp hp=>(vL hp).2,rfl,rfl⟩
  ·refine hF.congr (λj=>?_) rfl rfl
   unfold gR;by_cases e:j=i
   ·subst e;rw [ah];exact gQ.symm
   ·rw [aD e]
  ·have:gR w i w.bP sl=w:=by
    exact sW (by show w.ps i=_;unfold mS;rw [<- gQ])
   rw [this];exact R1
end
noncomputable def gm (P:Pr)(j:Jb):Pr:={P with dq:=some j}
noncomputable def aO (j:Jb)(l:List rN):Jb:={j with aI:=l}
noncomputable def s9 (j:Jb)(l:List (Int×Int)):Jb:={j with bl:=l}
noncomputable def d8 (j:Jb)(p:Int):Jb:={j with made:=p}
def tU (ow:Ow)(v:V)(st:List rN):Prop:=∃a m vs,v=.ref a/\ow a=.k m (.list vs)/\bZ (i9 ow) vs st
theorem tU.ext (E:Ext ow az)(h:tU ow v st):tU az v st:=by
 refine Af h λa m vs e h1 h2=>?_;exact ⟨a,m,vs,e,E _ _ _ h1,h2.imp λZ Z z=>z.ext E.i⟩
theorem bZ.app (h:bZ R l r)(h':bZ R l' r'):bZ R (l++l') (r++r'):=by
 induction h with
 |nil=>exact h'
 |cons h1 _ ih=>exact .cons h1 ih
section
theorem BW (R:Rel g ow w H)(hc:oB w)(hF:fM w)(hi:i<24)(dw:i≠0)(h0:w.fst=some 0)(gQ:(w.ps i).fl=some sl)
  (hQ:∀h' sl' az H',fM (gR w i h' sl')->Rel g az (fh (gR w i h' sl') i s) H'->Ext ow az->Q (.int 0) H'):(aj (k+7)).aB .au .iw [.ref g.aj,.ref (g.pa i),.int s] H Q:=by
 refine R.tQ λZ run ht=>?_;rw [h0] at ht;refine bo rfl rfl rfl (cG (iJ (dY rfl (DB (DJ R rfl (iH ht.h rfl (jW (vD R (i:=0) (o:=some i) (by decide) (λq e=>by cases e;exact hi)) ?_)))))));refine (decide_eq_false (λe=>dw (Option.some.inj e)))▸?_;refine aR (ar (ax (bK (jK R (bh rfl) rfl rfl (ao (bh rfl) aA _ (Hd R hc hF hi gQ λh' sl' iR H1 F1 R1 E1=>?_))))));refine lI (Rel.at R1 hi) λcv nm tn rg fv jv A=>?_;refine cH cS (bh rfl) (gO R1 hi A rfl rfl A.ok A.cF A.ew A.fl A.dq λH2 R2=>?_);exact bK (qI R2 (λQ h=>DJ R2 rfl h) (λZ Z Z Z=>rfl) rfl (ao (bh rfl) (ao (bh rfl) aA) _ (Ov R2 hi dw h0 λCD H3 R3 E3=>b6 cS (bA (hQ _ _ _ _ F1 R3 (E1.trans E3))))))
theorem Rel.mU (R:Rel g ow w H)(hi:i<24)(hj:(w.ps i).dq=some j):∃cv nm tn rg fv k t,cQ g ow H i (w.ps i) cv nm tn rg fv (.ref j.ja)/\gi g ow H i k t j:=by
 refine R.pw hi λcv nm tn rg fv jv A=>?_;have:=A.dq;simp only [hj] at this;refine this _ λq1 k t J=>?_;obtain rfl:=q1;exact ⟨cv,nm,tn,rg,fv,k,t,A,J⟩
theorem Tu (hp:H p=some (.list xs))(hu:H u=some (.list ys))(hl:xs.length<1000)(L8:ys.length<1000)(dw:ys≠[])(h:Q .none (H.upd p (.list (xs++ys)))):pX C H .extend (.ref p) .lL [.ref u] Q:=MP.mk _ _ _ _ hp hu L8 hl dw h
theorem DK (R:Rel g ow w H)(hi:i<24)(hj:(w.ps i).dq=some j)(hv:tU ow v st)(dw:st≠[])(hl:st.length+j.aI.length<500)
  (hQ:∀az H',Rel g az (w.aL i (gm (w.ps i) (aO j (st++j.aI)))) H'->Ext ow az->Q .none H'):(aj (k+1)).aB .cV .jm [.ref j.ja,v] H Q:=by
 refine Af hv λa mm vs dp ha j0=>?_;subst dp;refine fq (R.mU hi hj) λcv nm tn rg fv kk t A J=>?_;refine J.wy λsh hc=>?_;refine J.aI.el λok xs hx kI W0=>?_;have l1:=j0.len;have l2:=kI.len;replace l2:=(List.length_reverse)▸l2;refine bo rfl rfl rfl (bK (e7 (bS rfl hc rfl) (JQ hx ⟨rfl,aT (JW (bh rfl) (iI (R.aM _ _ _ ha) ⟨by omega,λb hb=>cA ?_⟩))⟩)));have R1:=R.dM hb (m:=false) (o:=.list vs.reverse);have G1:=fi (ow:=ow) (l:=.k false (.list vs.reverse)) (o:=.list vs.reverse) hb;have S1:hU ow H (ow.set b (.k false (.list vs.reverse))) (H.upd b (.list vs.reverse)) b:=(.mk (λb o h Z=>G1 b o h) ((aq R hb _).i));have O1:∀l,Off ow H b l:=λl=>Off.fresh hb l;have A1:=A.sim S1 (G1 _ _ A.h |>.2.trans A.h.symm) (.mk (O1 _) (O1 _) (O1 _) (O1 _) (O1 _) (O1 _));have J1:=J.sim S1 (O1 _) (O1 _) (O1 _);refine Tu (G1 _ _ hx).2 (ak _ _ _) (by exact Nat.lt_of_lt_of_le ‹_› (by decide)) (by rw [List.length_reverse];omega) ?_ (ar (cC (hQ _ _ (R1.vv hi A1 J1 (vs:=xs++vs.reverse) (st:=st++j.aI) ?_ ?_) (aq R hb _))))
 ·intro e
  have:=congrArg List.length e;rw [List.length_reverse,l1] at this;exact dw (List.eq_nil_of_length_eq_zero this)
 ·rw [List.reverse_append,List.reverse_reverse]
  exact (j0.imp λZ Z z=>z.ext (aq R hb _).i).app (kI.imp λZ Z z=>z.ext (aq R hb _).i)
 ·rw [List.length_append,List.length_reverse];omega
def Mk (C:Calls)(n:Nat)(m:Loc)(g:Ad)(w:W)(wB:Ow)(e:E)(s:rN):Prop:=
 ∀ow H Q,Ext wB ow->Rel g ow w H->(∀az H' v,Rel g az w H'->Ext ow az->i9 az v s->Q v H')->(ev C n).E e m H Q
theorem aak (h:bZ (Mk C n m g w wB) es st):∀ow H q,Ext wB ow->Rel g ow w H->(∀az H' vs,Rel g az w H'->Ext ow az->bZ (i9 az) vs st->q vs H')->nH (ev C n) es m H q:=by
 induction h with
 |nil=>intro ow H q E R hq;exact cA (hq _ _ _ R .rfl' .nil)
 |cons h1 _ ih=>
  intro ow H q E R hq;exact aT (h1 _ _ _ E R λiR H1 v R1 E1 hv=>ih iR H1 _ (E.trans E1) R1 λoA H2 vs R2 E2 j0=>hq _ _ _ R2 (E1.trans E2) (.cons (hv.ext E2.i) j0))
theorem DL (h:bZ (Mk C n m g w ow) es st)(R:Rel g ow w H)(hQ:∀az H' v,Rel g az w H'->Ext ow az->tU az v st->Q v H'):(ev C (n+1)).E (.lst es) m H Q:=
 JP (aak h ow H _ .rfl' R λiR H1 vs R1 E1 j0 a ha=>hQ _ _ _ (R1.dM ha (m:=false)) (E1.trans (aq R1 ha _)) ⟨a,false,vs,rfl,aC _ _ _,j0.imp λZ Z z=>z.ext (aq R1 ha _).i⟩)
theorem tb (he:∀ow H Q,Ext wB ow->Rel g ow w H->Q tv H->(ev C n).E e m H Q) (ht:fB wB tv t) (C1:∃n',n=n'+1):Mk C (n+1) m g w wB (.tup [.str .kT,e]) (.run t):=by
 obtain ⟨n',rfl⟩:=C1;exact λow H Q E R hq=>xR (aT (BB (aT (he _ _ _ E R (cA λa ha=>hq _ _ _ (R.dM ha (m:=false)) (aq R ha _) (.mk tv (.mk a rfl (aC _ _ _)) (ht.ext (E.trans (aq R ha _)).i)))))))
theorem tc {nm:Nm}{s:rN}(he:∀ow H Q,Rel g ow w H->Q (.int z) H->(ev C (n+1)).E e m H Q) (hs:∀ow v,bQ ow v (.tuple [.str nm,.int z])->i9 ow v s):Mk C (n+2) m g w wB (.tup [.str nm,e]) s:=
 λow H Q E R hq=>xR (aT (BB (aT (he _ _ _ R (cA λa ha=>hq _ _ _ (R.dM ha (m:=false)) (aq R ha _) (hs _ _ (.mk a rfl (aC _ _ _))))))))
theorem zw:Mk C (n+2) m g w wB (.tup [.str .fw]) .wait:=
 λow H Q E R hq=>jB (ao ox aA) (λa ha=>hq _ _ _ (R.dM ha (m:=false)) (aq R ha _) (.mk a rfl (aC _ _ _)))
theorem Fi (he:∀ow H Q,Rel g ow w H->Q (.int z) H->(ev C (n+1)).E e m H Q) (he':∀ow H Q,Rel g ow w H->Q (.int z') H->(ev C (n+1)).E e' m H Q):Mk C (n+2) m g w wB (.tup [.str .my,e,e']) (.lead z z'):=
 λow H Q E R hq=>xR (aT (BB (aT (he _ _ _ R (aT (he' _ _ _ R (cA λa ha=>hq _ _ _ (R.dM ha (m:=false)) (aq R ha _) (.mk a rfl (aC _ _ _)))))))))
def eX (w:W)(i c:Nat)(sl:ON)(j:Jb)(ja:Nat)(st:List rN):W:=((d6 w i c sl).aL c (gm (kz w.next i sl) ⟨ja,st,[],0⟩)).aL i (gm (w.ps i) (d8 j w.next))
theorem Kw (R:Rel g ow w H)(hi:i<24)(hj:(w.ps i).dq=some j)(hu:(w.ps i).st≠.ae)(GD:∃c,c<24/\(w.ps c).st=.ae) (gQ:(w.ps i).fl=some sl) (hF:fM w) (eI:∀c,c<24->(w.ps c).st≠.ae->(w.ps c).aS<w.next)
  (hv:tU ow v st) (hl:st.length<500) (hQ:∀c ja az H',c<24->(w.ps c).st=.ae->Rel g az (eX w i c sl j ja st) H'->Ext ow az->Q (.bool true) H'):
  (aj (k+6)).aB .cV .aZ [.ref j.ja,v] H Q:=by
 refine fq (R.mU hi hj) λcv nm tn rg fv kk t A J=>?_;refine J.wy λsh hc=>?_;refine bo rfl rfl rfl (BA (dT (jK R (bS rfl hc rfl) rfl rfl (aT (jK R (bS rfl hc rfl) rfl rfl (ao (bS rfl hc rfl) aA _ (BV R hi hu GD gQ (λn f hn=>hF.one hi gQ hn) λc iR H1 zx j4 R1 E1=>cA ?_)))))));have UN:i≠c:=λe=>hu (e▸j4);have Mj:∀x,x≠c->(d6 w i c sl).ps x=w.ps x:=λx hx=>by
  unfold d6;rw [aD hx,bE.1]
 have nC:(d6 w i c sl).ps c=kz w.next i sl:=ah;refine BU R1 zx (by rw [nC];nofun) (by rw [nC];rfl) (λx hx kI Tv=>?_) (ar (ax ?_))
 ·by_cases e:x=c
  ·exact e
  ·rw [Mj x e] at kI Tv
   exact absurd Tv (Int.ne_of_lt (eI x hx kI))
 refine Af (hv.ext E1) λa0 mm vs dp ha0 j0=>?_;subst dp;refine fq (R1.mU hi (j:=j) (by rw [Mj i UN];exact hj)) λcv nm tn rg fv kk t A J=>?_;refine J.wy λsh hc=>?_;have l1:=j0.len;refine eW (nj rfl (aT (gj rfl hc rfl (aT (dY rfl (aT (JW (bh rfl) (iI (R1.aM _ _ _ ha0) ⟨by omega,λb hb=>cA λja Ml=>?_⟩))))))));have R2:=R1.dM hb (m:=false) (o:=.list vs.reverse);have E2:=aq R1 hb (.k false (.list vs.reverse));refine bo rfl rfl rfl (bH (λZ h=>dY rfl h) rfl rfl (Nat.zero_lt_succ 0) rfl λxc=>bH (λZ h=>dY rfl h) rfl rfl xc rfl λxc=>?_);have Tw:b≠ja:=λe=>by rw [<- e,ak] at Ml;injection Ml
 refine eW (l9 (bh rfl) (iI ((aY Tw _).trans (ak _ _ _)) ⟨by rw [List.length_reverse];omega,λa1 h1=>dY rfl ?_⟩));have e1:a1≠ja:=λe=>by rw [e,ak] at h1;injection h1
 rw [dy e1.symm];rw [aY e1] at h1;refine gz rfl xc rfl λxc=>eW (gG aA (λa2 h2=>dY rfl ?_));have e2:a2≠ja:=λe=>by rw [e,ak] at h2;injection h2
 rw [dy e2.symm];rw [aY e2] at h2;refine gz rfl xc rfl λxc=>bH (λZ h=>Ta h) rfl rfl xc rfl λxc=>bH (λZ h=>da h) rfl rfl xc rfl λxc=>ar (cC ⟨rfl,dY rfl ?_⟩);have R3:=R2.new h1 (l:=.aI c) (o:=.list vs.reverse) (λZ Z=>ay rfl);have E3:=aq R2 h1 (.aI c);have R4:=R3.new h2 (l:=.bl c) (o:=.list []) (λZ Z=>ay rfl);have E4:=aq R3 h2 (.bl c);have h3:=(aY e2.symm (.list [])).trans ((aY e1.symm (.list vs.reverse)).trans Ml);have R5:=R4.new h3 (l:=.dq c) (o:=.inst .cV (zc g c 0 a1 a2 (.bool false))) (λZ Z=>ay rfl);have E5:=aq R4 h3 (.dq c);have W2:a1≠a2:=λe=>by rw [<- e,ak] at h2;injection h2
 refine lI (Rel.at R5 zx) λMe G4 Mf Kf Mg Mh B=>?_;refine gO R5 zx B rfl (P':=gm (kz w.next i sl) ⟨ja,st,[],0⟩) rfl (.mk B.ok.aJ nofun) B.cF B.ew B.fl (.mk rfl a1 a2 (.mk (aC _ _ _) (.mk _ (ak _ _ _)) (.mk ?_ (.mk vs.reverse ?_ ?_ ?_)) (.mk ?_ (.mk [] ?_ .nil (Nat.zero_lt_succ _))))) λH6 R6=>?_
 ·exact (bC e1 _).trans ((bC W2 _).trans (aC _ _ _))
 ·exact (aY e1 _).trans ((aY W2 _).trans (ak _ _ _))
 ·rw [List.reverse_reverse];exact j0.imp λZ Z z=>z.ext (((E2.trans E3).trans E4).trans E5).i
 ·rw [List.length_reverse];omega
 ·exact (bC e2 _).trans (aC _ _ _)
 ·exact (aY e2 _).trans (ak _ _ _)
 refine lI (Rel.at R6 zx) λMe G4 Mf Kf Mg Mh B=>?_;have Mm:∀{w1:W}{P},(w1.aL c P).ps i=w1.ps i:=aD UN;have hi6:(W.aL (({w with next:=w.next+1,fst:=some (w.fst.getD c)}:W).lG (jC sl 6)) c (gm (kz w.next i sl) ⟨ja,st,[],0⟩)).ps i=w.ps i:=by rw [Mm,bE.1]
 refine fq (R6.mU hi (j:=j) (by rw [hi6];exact hj)) λcv nm tn rg fv kk t A J=>?_;refine J.wy λsh hc=>?_;refine cH (bS rfl B.h rfl) (bh rfl) (cW (fs':=zc g i w.next kk t sh) hc rfl rfl rfl (b6 ug (bA (hQ c ja _ _ zx j4 ?_ ((((E1.trans E2).trans E3).trans E4).trans E5)))));have:=R6.JM hi A J (sh:=sh) (mk:=w.next);rw [hi6] at this;delta eX d6;rw [dn];exact this
end
noncomputable def xX (w:W)(i d f f':Nat)(sl:ON):W:=Kj (gk w i d f sl) i d f' (sl.set d none)
def dr (w:W)(i c:Nat)(sl:ON)(j:Jb)(ja:Nat)(st st2:List rN):W:=(eX w i c sl j ja st).aL i (gm (w.ps i) (aO (d8 j w.next) (st2++j.aI)))
def oD (w:W)(i c:Nat)(j:Jb):W:=(w.aL c kP).aL i (gm (w.ps i) (s9 j (j.bl++[((w.ps c).aS,(w.ps c).status)])))
def Ready.ZF (w:W)(i:Nat)(j:Jb)(sl:ON)(Z:Prop):Prop:=∀(hi:i<24)(hj:(w.ps i).dq=some j)(hu:(w.ps i).st≠.ae)(gQ:(w.ps i).fl=some sl)(hF:fM w)(eI:∀c,c<24->(w.ps c).st≠.ae->(w.ps c).aS<w.next) (hl:j.aI.length<300) (jx:∀c,c<24->(w.ps c).st=.ae->(w.ps c).fl=none) (hc:oB w),Z
def Ready (w i j sl):=∀Z:Prop,Ready.ZF w i j sl Z->Z
theorem Ready.mk:Ready.ZF w i j sl (Ready w i j sl):=λhi hj hu gQ hF eI hl jx hc _ Z=>Z hi hj hu gQ hF eI hl jx hc
def Ready.hi (Z:Ready w i j sl):=Z _ λhi hj hu gQ hF eI hl jx hc=>hi
def Ready.hj (Z:Ready w i j sl):=Z _ λhi hj hu gQ hF eI hl jx hc=>hj
def Ready.hu (Z:Ready w i j sl):=Z _ λhi hj hu gQ hF eI hl jx hc=>hu
def Ready.gQ (Z:Ready w i j sl):=Z _ λhi hj hu gQ hF eI hl jx hc=>gQ
def Ready.hF (Z:Ready w i j sl):=Z _ λhi hj hu gQ hF eI hl jx hc=>hF
def Ready.eI (Z:Ready w i j sl):=Z _ λhi hj hu gQ hF eI hl jx hc=>eI
def Ready.hl (Z:Ready w i j sl):=Z _ λhi hj hu gQ hF eI hl jx hc=>hl
def Ready.jx (Z:Ready w i j sl):=Z _ λhi hj hu gQ hF eI hl jx hc=>jx
def Ready.hc (Z:Ready w i j sl):=Z _ λhi hj hu gQ hF eI hl jx hc=>hc
section
theorem vO:(gk w i d f sl).ps i=mS (w.ps i) (some (sl.set d none)):=ah
theorem xd (R:Rel g ow w H)(hi:i<24)(hj:(w.ps i).dq=some j)(hs:look .aa m=some (.ref j.ja))(hl:∀mk k t sh,look x (zc g i mk k t sh)=none) (hm:(meths .cV x).isSome=true)
  (h:nH (ev C (n+1)) es m H λvs H=>C.aB .cV x (.ref j.ja::vs) H Q):(ev C (n+2)).E (.aB (.var .aa) x es) m H Q:=by
 refine fq (R.mU hi hj) λZ Z Z Z Z Z Z A J=>?_;refine J.wy λsh hc=>?_;exact e7 (bh hs) (jz hc rfl (hl _ _ _ _) ⟨hm,h⟩)
theorem td (R:Rel g ow w H)(hi:i<24)(hj:(w.ps i).dq=some j)(hs:look .aa m=some (.ref j.ja))(h:Q (.ref g.aj) H):(ev C (n+2)).E (.attr (.var .aa) .bW) m H Q:=by
 refine fq (R.mU hi hj) λZ Z Z Z Z Z Z A J=>?_;refine J.h _ λsh hc=>?_;exact gj hs hc rfl h
theorem xY (R:Rel g ow w H)(hi:i<24)(hj:(w.ps i).dq=some j)(hs:look .aa m=some (.ref j.ja))(h:Q (.ref (g.pa i)) H):(ev C (n+2)).E (.attr (.var .aa) .ab) m H Q:=by
 refine fq (R.mU hi hj) λZ Z Z Z Z Z Z A J=>?_;refine J.h _ λsh hc=>?_;exact gj hs hc rfl h
theorem OQ (R:Rel g ow w H)(Y:Ready w i j sl)(h1:sl[d]?=some (some f))(h2:sl[o']?=some (some f'))(dw:o'≠d)(rR:∀b,b<d->∃f,sl[b]?=some (some f))
  (hQ:∀az H',Rel g az (xX w i d f f' sl) H'->Ext ow az->Q .none H'):(aj (k+6)).aB .cV .my [.ref j.ja,.int d,.int o'] H Q:=by
 refine cX (Y.hF.one Y.hi Y.gQ h1) λf1 f2=>?_;refine bo rfl rfl rfl (BA (bK (jK R (λQ h=>td R Y.hi Y.hj rfl h) rfl rfl (aT (xY R Y.hi Y.hj rfl (ao (bh rfl) aA _ (vN R Y.hc Y.hi Y.gQ h1 f1 f2 λiR H1 R1 E1=>ar (ax ?_))))))));have F1:=Y.hF.close Y.hi Y.gQ h1;have hj1:((gk w i d f sl).ps i).dq=some j:=by rw [vO];exact Y.hj
 have Kx:((gk w i d f sl).ps i).fl=some (sl.set d none):=by rw [vO];rfl
 have t8:(sl.set d none)[o']?=some (some f'):=by rw [List.getElem?_set_ne (Ne.symm dw)];exact h2
 obtain ⟨g1,g2⟩:=F1.one Y.hi Kx t8;exact bK (jK R1 (λQ h=>td R1 Y.hi hj1 rfl h) rfl rfl (aT (xY R1 Y.hi hj1 rfl (ao (bh rfl) aA _ (Ku R1 Y.hi Kx (n':=d) t8 (List.getElem?_set_self (jD h1))
  (λb hb=>by rw [List.getElem?_set_ne (Nat.ne_of_gt hb)];exact rR b hb) g1 g2 λH2 R2=>ar (cC (hQ _ _ R2 E1)))))))
theorem fN:(eX w i p sl j b st).ps i=gm (w.ps i) (d8 j w.next):=ah
def OR (C:Calls)(n:Nat)(m:Loc)(g:Ad)(w:W)(wB:Ow)(e:E)(st:List rN):Prop:=
 ∀ow H Q,Ext wB ow->Rel g ow w H->(∀az H' v,Rel g az w H'->Ext ow az->tU az v st->Q v H')->(ev C n).E e m H Q
theorem gY (h:bZ (Mk C n m g w wB) es st):OR C (n+1) m g w wB (.lst es) st:=λow H Q E R hQ=>DL (h.imp λZ Z z az H' Q' E'=>z az H' Q' (E.trans E')) R hQ
theorem zy (hl:look x m=some v)(h:tU wB v st):OR C (n+1) m g w wB (.var x) st:=λow H Q E R hQ=>dY hl (hQ _ _ _ R .rfl' (h.ext E))
theorem vP (hp:H p=some (.list xs))(hu:H u=some (.list ys))(hl:xs.length+ys.length<1000)(h:alloc H (.list (xs++ys)) Q):wU H .add (.ref p) (.ref u) Q:=.cat _ _ _ _ hp hu hl h
theorem rW (h1:OR C n m g w wB e1 st)(h2:OR C n m g w wB e2 st2)(hl:st.length+st2.length<1000):OR C (n+1) m g w wB (.bin .add e1 e2) (st++st2):=λow H Q E R hQ=>
 p9 (h1 _ _ _ E R λiR H1 v1 R1 E1 VI=>h2 _ _ _ (E.trans E1) R1 λoA H2 v2 R2 E2 ED=>by
  refine Af (VI.ext E2) λa mm vs dp ha j0=>?_;subst dp;refine Af ED λb mm' Ie dp hb W3=>?_;subst dp;refine vP (R2.aM _ _ _ ha) (R2.aM _ _ _ hb) (by rw [j0.len,W3.len];exact hl) λc hc=>?_;exact hQ _ _ _ (R2.dM hc (m:=false)) ((E1.trans E2).trans (aq R2 hc _)) ⟨c,false,vs++Ie,rfl,aC _ _ _,(j0.app W3).imp λZ Z z=>z.ext (aq R2 hc _).i⟩)
theorem vQ (R:Rel g ow w H)(Y:Ready w i j sl)(GD:∃c,c<24/\(w.ps c).st=.ae) (hs:look .aa m=some (.ref j.ja)) (h1:OR (aj (k+6)) (n+2) m g w ow e st) (hl:st.length<500)
  (hQ:∀c ja az H',c<24->(w.ps c).st=.ae->Rel g az (eX w i c sl j ja st) H'->Ext ow az->QT true H'):(ev (aj (k+6)) (n+4)).T (.aB (.var .aa) .aZ [e]) m H QT:=
 qG (xd R Y.hi Y.hj hs (λZ Z Z Z=>rfl) rfl (aT (h1 _ _ _ .rfl' R λiR H1 v R1 E1 hv=>cA (Kw R1 Y.hi Y.hj Y.hu GD Y.gQ Y.hF Y.eI hv hl λc ja oA H2 hc j4 R2 E2=>bq (hQ c ja _ _ hc j4 R2 (E1.trans E2))))))
theorem Ky (R:Rel g ow w H)(hi:i<24)(hj:(w.ps i).dq=some j)(hs:look .aa m=some (.ref j.ja))(h1:OR (aj (k+6)) (n+2) m g w ow e st)(dw:st≠[])(hl:st.length+j.aI.length<500)
  (hQ:∀az H',Rel g az (w.aL i (gm (w.ps i) (aO j (st++j.aI)))) H'->Ext ow az->eK (ev (aj (k+6)) (n+4)) ss m H' F):eK (ev (aj (k+6)) (n+4)) (.expr (.aB (.var .aa) .jm [e])::ss) m H F:=
 bK (xd R hi hj hs (λZ Z Z Z=>rfl) rfl (aT (h1 _ _ _ .rfl' R λiR H1 v R1 E1 hv=>cA (DK R1 hi hj hv dw hl λoA H2 R2 E2=>hQ _ _ R2 (E1.trans E2)))))
theorem pE (R:Rel g ow w H)(Y:Ready w i j sl)(GD:∃c,c<24/\(w.ps c).st=.ae) (hs:look .aa m=some (.ref j.ja))
  (h1:OR (aj (k+6)) (n+2) m g w ow e st) (hl:st.length<500) (h2:∀c ja az,Ext ow az->OR (aj (k+6)) (n+2) m g (eX w i c sl j ja st) az e2 st2) (dw:st2≠[]) (Cy:st2.length<100)
  (hQ:∀c ja az H',c<24->(w.ps c).st=.ae->Rel g az (dr w i c sl j ja st st2) H'->Ext ow az->eK (ev (aj (k+6)) (n+5)) ss m H' F):
  eK (ev (aj (k+6)) (n+5)) (.ez (.aB (.var .aa) .aZ [e]) [(.expr (.aB (.var .aa) .jm [e2]))] []::ss) m H F:=by
 refine cG (vQ R Y GD hs h1 hl λc ja oA H2 hc j4 R2 E2=>bT ?_);have Oq:((eX w i c sl j ja st).ps i).dq=some (d8 j w.next):=by rw [fN];rfl
 refine Ky (j:=d8 j w.next) R2 Y.hi Oq hs (h2 c ja oA E2) dw (by have:=Y.hl;refine (?_:_+j.aI.length<500);omega) λHT H4 R4 E4=>ar (ax (hQ c ja _ _ hc j4 ?_ (E2.trans E4)));rw [fN] at R4;exact R4
theorem DN (R:Rel g ow w H)(hi:i<24)(hj:(w.ps i).dq=some j)(hl:j.aI.length<300)(hv:bQ ow v (.list []))(hQ:∀az H',Rel g az (w.aL i (gm (w.ps i) (aO j (.exit 1::j.aI)))) H'->Ext ow az->Q .none H'):
  (aj (k+2)).aB .cV .oV [.ref j.ja,v] H Q:=by
 refine hv _ λa q43 ha=>?_;clear hv;obtain rfl:=q43;refine bo rfl rfl rfl (cG (iJ (dY rfl (gG aA (λb hb=>kr (eq_nil ((fi (ow:=ow) (l:=.other) hb _ _ (R.aM _ _ _ ha)).2) (ak _ _ _)) (bT ?_))))));have R1:=R.dM hb (m:=false) (o:=.list []);have E1:=aq R hb (.k false (.list []));refine bK (xd R1 hi hj rfl (λZ Z Z Z=>rfl) rfl (aT (DL (st:=[.exit 1]) (.cons (tc (λZ Z Z Z h=>da h) λZ Z h=>h) .nil) R1 λoA H2 v R2 E2 hv=>cA (DK R2 hi hj hv (wX rfl) (by show 1+_<_;omega) λCD H3 R3 E3=>?_))));exact b6 cR (k_ret (bA (hQ _ _ R3 ((E1.trans E2).trans E3))))
abbrev orQ (r:Ev)(b:E)(m:Loc)(Q:VP)(v:V)(H:Hp):Prop:=Er (λt H=>if t then Q (.bool true) H else r.E b m H Q) H v
theorem W4 (h:(ev C n).E a m H (orQ (ev C n) b' m Q)):(ev C (n+1)).E (.yD a b') m H Q:=h
theorem aam (h:Q (.bool true) H):orQ r b' m Q (.bool true) H:=.mk _ h
theorem aan (h:r.E b' m H Q):orQ r b' m Q (.bool false) H:=.mk _ h
noncomputable def aao:Option Int->V
 |none=>.none
 |some z=>.int z
noncomputable def hit (z:Option Int)(p:Int):Bool:=match z with
 |none=>true
 |some z=>decide (p=z)
theorem BX (R:Rel g ow w H)(hi:i<24)(hj:(w.ps i).dq=some j)(hl:j.bl.length<400)(hc:∃c,c<24/\eB w i c=true) (oE:eB w i i=false)
  (hR:∀c az H',c<24->eB w i c=true->(w.ps c).st=.bc->Rel g az (oD w i c j) H'->Ext ow az->Q (.bool (hit z (w.ps c).aS)) H')
  (hS:∀az H',(∀c,c<24->eB w i c=true->(w.ps c).st≠.bc)->Rel g az (w.aL i {w.ps i with st:=.aU,cF:=.child (w.ps i).aS}) H'->Ext ow az->Q (.bool false) H'):
  (aj (k+6)).aB .cV .fw [.ref j.ja,aao z] H Q:=by
 refine bo rfl rfl rfl (BA (dT (jK R (λQ h=>td R hi hj rfl h) rfl rfl (aT (xY R hi hj rfl (cA (Kv R hi hc (λc iR H1 v hc Tx hz R1 E1 hv=>ar (ax ?_)) (λiR H1 hn R1 E1=>ar (ax ?_)))))))))
 ·refine hv _ λa q44 ha=>?_;clear hv;obtain rfl:=q44
  have UN:i≠c:=λe=>by rw [<- e,oE] at Tx;exact Bool.noConfusion Tx
  have Mm:(w.aL c kP).ps i=w.ps i:=aD UN;refine fq (R1.mU hi (j:=j) (by rw [Mm];exact hj)) λcv nm tn rg fv kk t A J=>?_;refine J.wy λsh Fh=>?_;refine J.bl.el λot vs ht j0 fX=>?_;refine cG (bD (bh rfl) cR (jW (.xn _ rfl) (aR (ar (ax ?_)))));have l2:=j0.len;refine bK (e7 (bS rfl Fh rfl) (l7 ht ⟨rfl,ao (bh rfl) aA _ (j3 ht (by exact Nat.lt_of_lt_of_le ‹_› (by decide)) ?_)⟩));have R2:=R1.JL hi A J (vs:=vs++[.ref a]) (st:=j.bl++[((w.ps c).aS,(w.ps c).status)]) (j0.snoc (.mk a rfl ha)) (by rw [List.length_append];refine (?_:_+1<_);omega);replace R2:=(Mm)▸R2;have key:=hR c _ _ hc Tx hz R2 E1;induction z with
  |none=>exact fU (W4 (DD (bh rfl) cR (jW .nn (aam (bA key)))))
  |some z=>exact fU (W4 (DD (bh rfl) cR (jW (.xn _ rfl) (aan (JO (ku (bh rfl) cS (JS (R2.aM _ _ _ ha) (by decide) (by decide) rfl (dY rfl (kr eq_int (bA key))))))))))
 ·exact cG (bD (bh rfl) cR (jW .nn (bT (b6 GW (k_ret (bA (hS _ _ hn R1 E1)))))))
end
theorem xZ:∀{l:ON},(∀n:Nat,l[n]?≠some (some f))->mi f l=0
 |[],_=>rfl
 |o::l,h=>by
  have h1:=xZ (l:=l) (f:=f) (λn=>h (n+1));have h0:ind f o=0:=if_neg (λe=>h 0 (by refine (e)▸?_;rfl));refine (?_:ind f o+mi f l=0);grind only
theorem He:∀n,(∀i,i<n->∀sl,(ps i).fl=some sl->∀k:Nat,sl[k]?≠some (some f))->kB ps f n=0:=by
 intro n;induction n with
 |zero=>
  intro _;exact rfl
 |succ n ih=>
  intro h;refine (?_:kB ps f n+cnt f (ps n).fl=0);rw [ih (λi hi=>h i (Nat.lt_succ_of_lt hi))];induction hf:(ps n).fl with
  |none=>rfl
  |some sl=>
   refine (?_:0+mi f sl=0);rw [xZ (h n (Nat.lt_succ_self _) sl hf)];rfl
section
theorem fM.pipe (h:fM w)(hi:i<24)(hs:(w.ps i).fl=some sl)(q1:f1∉w.fs)(q2:f2∉w.fs)(q3:f2≠f1)(h1:sl[n1]?=some none)(h2:sl[n2]?=some none)(h3:n1≠n2):fM (iS w i f1 f2 n1 n2 sl):=by
 have t8:(sl.set n1 (some f1))[n2]?=some none:=by rw [List.getElem?_set_ne h3];exact h2
 refine (.mk (λk hk sl' qm m f hm=>?_) (λf pz=>?_))
 ·refine (?_:f∈f2::f1::w.fs)
  by_cases e:k=i
  ·subst e
   replace qm:=(show (iS w k f1 f2 n1 n2 sl).ps k=_ from ah)▸qm;cases qm;by_cases e:n2=m
   ·subst e
    replace hm:=(List.getElem?_set_self (jD t8))▸hm;cases hm;exact .head _
   ·rw [List.getElem?_set_ne e] at hm
    by_cases e:n1=m
    ·subst e
     replace hm:=(List.getElem?_set_self (jD h1))▸hm;cases hm;exact .tail _ (.head _)
    ·rw [List.getElem?_set_ne e] at hm
     exact .tail _ (.tail _ (h.mem k hk sl hs m f hm))
  ·rw [show (iS w i f1 f2 n1 n2 sl).ps k=w.ps k from aD e] at qm
   exact .tail _ (.tail _ (h.mem k hk sl' qm m f hm))
 ·have hr:kB (iS w i f1 f2 n1 n2 sl).ps f 24=kB w.ps f 24+ind f (some f1)+ind f (some f2):=by
   rw [rV (ps:=w.ps) 24 hi (λk hk=>by rw [show (iS w i f1 f2 n1 n2 sl).ps k=w.ps k from aD hk]),show (iS w i f1 f2 n1 n2 sl).ps i=_ from ah,hs];refine (?_:kB w.ps f 24+mi f ((sl.set n1 (some f1)).set n2 (some f2)) - mi f sl=_);rw [vM t8,vM h1,show ind f none=0 from if_neg (ip rfl)];simp+arith only
  have z:∀f,f∉w.fs->kB w.ps f 24=0:=λf hf=>He 24 (λi hi sl hs k hk=>hf (h.mem i hi sl hs k f hk));rw [hr];refine (?_:_<=(if f=f2 then 1 else if f=f1 then 1 else w.bP f));by_cases e2:f=f2
  ·subst e2
   rw [if_pos rfl,z f q2,show ind f (some f)=1 from if_pos rfl,show ind f (some f1)=0 from if_neg (λe=>q3 (Option.some.inj e).symm)];exact Int.le_refl _
  ·rw [if_neg e2,show ind f (some f2)=0 from if_neg (λe=>e2 (Option.some.inj e).symm)]
   by_cases e1:f=f1
   ·subst e1
    rw [if_pos rfl,z f q1,show ind f (some f)=1 from if_pos rfl];exact Int.le_refl _
   ·rw [if_neg e1,show ind f (some f1)=0 from if_neg (λe=>e1 (Option.some.inj e).symm)]
    have:f∈f2::f1::w.fs:=pz;rcases List.mem_cons.mp this with h'|h'
    ·exact absurd h' e2
    ·rcases List.mem_cons.mp h' with h'|h'
     ·exact absurd h' e1
     ·have:=h.bP f h';grind only
theorem gA (hx:x≠i)(hc:x≠c):(eX w i c sl j ja st).ps x=w.ps x:=by
 delta eX d6;rw [aD hx,aD hc,aD hc,bE.1]
theorem kC (hc:c≠i):(eX w i c sl j ja st).ps c=gm (kz w.next i sl) ⟨ja,st,[],0⟩:=by
 unfold eX;rw [aD hc,ah]
theorem Ready.child (Y:Ready w i j sl)(hl:sl.length=6)(hc:c<24)(j4:(w.ps c).st=.ae):Ready (eX w i c sl j ja st) i (d8 j w.next) sl:=by
 have UN:c≠i:=λe=>Y.hu (e▸j4);have hfk:=Y.hF.fork (j:=c) Y.hi hc (Y.jx c hc j4) Y.gQ hl;refine (.mk Y.hi (by rw [fN];rfl) (by rw [fN];exact Y.hu) (by rw [fN];exact Y.gQ) (hfk.congr (λx=>?_) rfl rfl) (λx hx kI=>?_) Y.hl (λx hx kI=>?_) (.mk ?_ ?_))
 ·by_cases e:x=i
  ·subst e
   rw [fN];unfold d6;rw [aD (Ne.symm UN),bE.1];rfl
  ·by_cases e':x=c
   ·subst e'
    rw [kC e];unfold d6;simp only [ah];rfl
   ·rw [gA e e']
    unfold d6;rw [aD e',bE.1]
 ·have hn:(eX w i c sl j ja st).next=w.next+1:=bE.2.2.2.1
  simp only [hn];by_cases e:x=i
  ·subst e
   rw [fN];exact Int.lt_trans (Y.eI x hx Y.hu) (Int.lt_succ _)
  ·by_cases e':x=c
   ·subst e'
    rw [kC e];exact Int.lt_succ _
   ·rw [gA e e'] at kI ⊢
    exact Int.lt_trans (Y.eI x hx kI) (Int.lt_succ _)
 ·by_cases e:x=i
  ·subst e
   rw [fN] at kI;exact absurd kI Y.hu
  ·by_cases e':x=c
   ·subst e'
    replace kI:=(kC e)▸kI;cases kI
   ·rw [gA e e'] at kI ⊢
    exact Y.jx x hx kI
 ·refine (show (eX w i c sl j ja st).eu=w.eu from bE.2.2.2.2.2)▸?_;exact Y.hc.eu
 ·refine (show (eX w i c sl j ja st).dG=w.dG from bE.2.2.2.2.1)▸?_;exact Y.hc.dG
theorem Ready.pipe (Y:Ready w i j sl)(q1:f1∉w.fs)(q2:f2∉w.fs)(q3:f2≠f1)(h1:sl[n1]?=some none)(h2:sl[n2]?=some none)(h3:n1≠n2)(hn:w.dG+2<=30)(uc:w.eu<800):
  Ready (iS w i f1 f2 n1 n2 sl) i j ((sl.set n1 (some f1)).set n2 (some f2)):=by
 have wY:(iS w i f1 f2 n1 n2 sl).ps i=mS (w.ps i) (some ((sl.set n1 (some f1)).set n2 (some f2))):=ah;have oR:∀x,x≠i->(iS w i f1 f2 n1 n2 sl).ps x=w.ps x:=λx hx=>aD hx;refine (.mk Y.hi (by rw [wY];exact Y.hj) (by rw [wY];exact Y.hu) (by rw [wY];rfl) (Y.hF.pipe Y.hi Y.gQ q1 q2 q3 h1 h2 h3) (λx hx kI=>?_) Y.hl (λx hx kI=>?_) (.mk ?_ ?_))
 ·by_cases e:x=i
  ·subst e;rw [wY];exact Y.eI x hx Y.hu
  ·rw [oR x e] at kI ⊢;exact Y.eI x hx kI
 ·by_cases e:x=i
  ·subst e;rw [wY] at kI;exact absurd kI Y.hu
  ·rw [oR x e] at kI ⊢;exact Y.jx x hx kI
 ·exact Nat.lt_of_le_of_lt ‹_› (by decide)
 ·exact Nat.lt_of_le_of_lt ‹_› (by decide)
end
def BY (w:W)(i f1 f2 c1 c2 wC x7:Nat)(sl:ON)(j:Jb)(l r:Tree):W:=
 dr (eX (iS w i f1 f2 3 4 sl) i c1 ((sl.set 3 (some f1)).set 4 (some f2)) j wC [.lead 1 4,.close 3,.close 4,.run l]) i c2 ((sl.set 3 (some f1)).set 4 (some f2)) (d8 j w.next) x7 [.lead 0 3,.close 3,.close 4,.run r]
  [.close 3,.close 4,.wait,.wait,.exit 0]
section
theorem lt3 {P:Nat->Prop}(b:Nat)(h:b<3)(h0:P 0)(h1:P 1)(h2:P 2):P b:=by
 rcases Nat.lt_or_eq_of_le (Nat.le_of_lt_succ h) with h|h
 ·rcases Nat.lt_or_eq_of_le (Nat.le_of_lt_succ h) with h|h
  ·exact Nat.lt_one_iff.mp h▸h0
  ·exact h▸h1
 ·exact h▸h2
theorem Kz (R:Rel g ow w H)(Y:Ready w i j sl)(vJ:sl=[some f3,some f4,some f5,none,none,none])(GD:∃a b,a≠b/\(a<24/\(w.ps a).st=.ae)/\b<24/\(w.ps b).st=.ae) (hn:w.dG+2<=30) (uc:w.eu<800)
  {l r:Tree} (ht:fB ow v (.pipe l r)) (hQ:∀f1 f2 c1 c2 wC x7 az H',f1∉w.fs->f2∉w.fs->f2≠f1->c1<24->(w.ps c1).st=.ae->c2<24->(w.ps c2).st=.ae->c2≠c1->Rel g az (BY w i f1 f2 c1 c2 wC x7 sl j l r) H'->Ext ow az->Q .none H'):
  (aj (k+7)).aB .cV .b5 [.ref j.ja,v] H Q:=by
 subst vJ;refine ht _ λtx ty q47 hl hr=>?_;refine q47 _ λta q48 YD=>?_;clear q47;obtain rfl:=q48;refine bo rfl rfl rfl (BA (oq (jK R (λQ h=>td R Y.hi Y.hj rfl h) rfl rfl (aT (xY R Y.hi Y.hj rfl (cA (BS R hn (Nat.lt_trans uc (by decide)) Y.hi Y.gQ (n1:=3) (n2:=4) (Nat.le_of_ble_eq_true rfl) rfl (λb hb=>?_) (by decide) rfl (λb hb dw=>?_) λiR H1 f1 f2 v q1 q2 q3 R1 E1 vG=>?_)))))))
 ·exact lt3 (P:=λb=>∃f,[some f3,some f4,some f5,none,none,none][b]?=some (some f)) b hb ⟨_,rfl⟩ ⟨_,rfl⟩ ⟨_,rfl⟩
 ·exact lt3 (P:=λb=>∃f,[some f3,some f4,some f5,none,none,none][b]?=some (some f)) b (Nat.lt_of_le_of_ne (Nat.le_of_lt_succ hb) dw) ⟨_,rfl⟩ ⟨_,rfl⟩ ⟨_,rfl⟩
 refine vG _ λa q49 hv=>?_;clear vG;obtain rfl:=q49;refine vw (R1.aM _ _ _ hv) rfl (ar (ax ?_));have Y1:=Y.pipe (n1:=3) (n2:=4) q1 q2 q3 rfl rfl (by decide) hn uc;have oR:∀x,x≠i->(iS w i f1 f2 3 4 [some f3,some f4,some f5,none,none,none]).ps x=w.ps x:=λx hx=>aD hx;have KA:∀x,(w.ps x).st=.ae->x≠i:=λx hx e=>Y.hu (e▸hx);refine dT (gY (st:=[.close 3,.close 4]) (.cons (tc (λZ Z Z Z h=>dY rfl h) λZ Z h=>h) (.cons (tc (λZ Z Z Z h=>dY rfl h) λZ Z h=>h) .nil)) _ _ _ .rfl' R1 λoA H2 ve R2 E2 hve=>?_);have YK:=E1.trans E2;have W5:∀az,Ext oA az->az ta=_:=λaz E=>E _ _ _ (YK _ _ _ YD);refine Ae GD λx1 x2 aaq dp mc Tz=>?_;refine cX dp λhx1 KC=>?_;refine cG (vQ R2 Y1 ⟨x1,hx1,by rw [oR x1 (KA x1 KC)];exact KC⟩ rfl
  (rW (rW (gY (.cons (Fi (λZ Z Z Z h=>tR rfl h) (λZ Z Z Z h=>dY rfl h)) .nil)) (zy rfl hve) (by decide))
   (gY (st:=[.run l]) (.cons (tb (λow H Q E R h=>gj rfl (R.aM _ _ _ (W5 _ E)) rfl h) (hl.ext YK.i) ⟨_,rfl⟩) .nil)) (Nat.le_of_ble_eq_true rfl)) (Nat.le_of_ble_eq_true rfl) λc1 wC CD H3 xt OS R3 E3=>bT ?_)
 have TA:c1≠i:=λe=>Y1.hu (e▸OS);rw [oR c1 TA] at OS;have Y2:=Y1.child (ja:=wC) (st:=[.lead 1 4,.close 3,.close 4,.run l]) rfl xt (by rw [oR c1 TA];exact OS);have aar:∃c,c<24/\((eX (iS w i f1 f2 3 4 [some f3,some f4,some f5,none,none,none]) i c1 (([some f3,some f4,some f5,none,none,none].set 3 (some f1)).set 4 (some f2)) j wC [.lead 1 4,.close 3,.close 4,.run l]).ps c).st=.ae:=by
  by_cases e:x1=c1
  ·exact ⟨x2,mc,by rw [gA (KA x2 Tz) (λe'=>aaq (e.trans e'.symm)),oR x2 (KA x2 Tz)];exact Tz⟩
  ·exact ⟨x1,hx1,by rw [gA (KA x1 KC) e,oR x1 (KA x1 KC)];exact KC⟩
 refine pE R3 Y2 aar rfl
  (rW (rW (gY (.cons (Fi (λZ Z Z Z h=>tR rfl h) (λZ Z Z Z h=>dY rfl h)) .nil)) (zy rfl (hve.ext E3)) (by decide))
   (gY (st:=[.run r]) (.cons (tb (λow H Q E R h=>gj rfl (R.aM _ _ _ (W5 _ (E3.trans E))) rfl h) (hr.ext (YK.trans E3).i) ⟨_,rfl⟩) .nil)) (Nat.le_of_ble_eq_true rfl)) (Nat.le_of_ble_eq_true rfl)
  (λc2 x7 HT E4=>rW (zy rfl (hve.ext (E3.trans E4))) (gY (st:=[.wait,.wait,.exit 0]) (.cons zw (.cons zw (.cons (tc (λZ Z Z Z h=>da h) λZ Z h=>h) .nil)))) (by decide)) (wX rfl) (Nat.le_of_ble_eq_true rfl)
  λc2 x7 HT H4 Qs Hf R4 E4=>ar (ax (ar (cC ?_)))
 have W7:c2≠i:=λe=>Y2.hu (e▸Hf);have W8:c2≠c1:=λe=>by replace Hf:=(kC TA)▸(e)▸Hf;cases Hf
 rw [gA W7 W8,oR c2 W7] at Hf;exact hQ f1 f2 c1 c2 wC x7 _ _ q1 q2 q3 xt OS Qs Hf W8 R4 ((YK.trans E3).trans E4)
end
def oF (P:Pr):Pr:={P with st:=.aU,cF:=.child P.aS}
inductive zA (w:W)(i:Nat)(j:Jb)(sl:ON):rN->W->Bool->Prop where
 |prog:zA w i j sl (.run .run) (w.aL i (gm (w.ps i) (aO j (.exit 1::j.aI)))) true
 |back (t c ja) (hc:c<24) (hu:(w.ps c).st=.ae):zA w i j sl (.run (.back t)) (dr w i c sl j ja [.run t] [.exit 0]) true
 |semi (l r c ja) (hc:c<24) (hu:(w.ps c).st=.ae):zA w i j sl (.run (.semi l r)) (dr w i c sl j ja [.run l] [.wait,.run r]) true
 |pipe (l r f1 f2 c1 c2 wC x7) (q1:f1∉w.fs) (q2:f2∉w.fs) (q3:f2≠f1) (h1:c1<24) (YL:(w.ps c1).st=.ae) (h2:c2<24) (YM:(w.ps c2).st=.ae) (TB:c2≠c1):
   zA w i j sl (.run (.pipe l r)) (BY w i f1 f2 c1 c2 wC x7 sl j l r) true
 |cN (t c ja) (hc:c<24) (hu:(w.ps c).st=.ae):zA w i j sl (.cN t) (dr w i c sl j ja [.run t] [.until w.next]) true
 |lead (d o f f':Nat) (h1:sl[d]?=some (some f)) (h2:sl[o]?=some (some f')):zA w i j sl (.lead d o) (xX w i d f f' sl) true
 |close (n f:Nat) (h1:sl[n]?=some (some f)):zA w i j sl (.close n) (gk w i n f sl) true
 |Fj (s z c) (hs:(s=.wait/\z=none)\/∃p,s=.until p/\z=some p) (hc:c<24) (hi:eB w i c=true) (hz:(w.ps c).st=.bc):zA w i j sl s (oD w i c j) (hit z (w.ps c).aS)
 |Fm (s) (hn:∀c,c<24->eB w i c=true->(w.ps c).st≠.bc) (hs:s=.wait\/∃p,s=.until p):zA w i j sl s (w.aL i (oF (w.ps i))) false
 |exit (s h sl') (hF:fM (gR w i h sl')):zA w i j sl (.exit s) (fh (gR w i h sl') i s) true
def x8 (w:W):Prop:=∃c,c<24/\(w.ps c).st=.ae
def W9 (w:W):Prop:=∃a b,a≠b/\(a<24/\(w.ps a).st=.ae)/\b<24/\(w.ps b).st=.ae
def zB (w:W)(i:Nat)(j:Jb):Prop:=(∃c,c<24/\eB w i c=true)/\eB w i i=false/\j.bl.length<400
def Pre (w:W)(i:Nat)(j:Jb)(sl:ON):rN->Prop
 |.run .run=>True
 |.run (.back _)=>x8 w
 |.run (.semi _ _)=>x8 w
 |.run (.pipe _ _)=>(∃a b c,sl=[some a,some b,some c,none,none,none])/\W9 w/\w.dG+2<=30/\w.eu<800
 |.cN _=>x8 w
 |.lead d o=>∃(d' o' f f':Nat),d=d'/\o=o'/\sl[d']?=some (some f)/\sl[o']?=some (some f')/\o'≠d'/\∀b,b<d'->∃f,sl[b]?=some (some f)
 |.close n=>∃(n' f:Nat),n=n'/\sl[n']?=some (some f)
 |.wait=>zB w i j
 |.until _=>zB w i j
 |.exit _=>i≠0/\w.fst=some 0
section
theorem TC (R:Rel g ow w H)(Y:Ready w i j sl)(ht:fB ow v t)(hP:Pre w i j sl (.run t))(hQ:∀w' az H',zA w i j sl (.run t) w' true->Rel g az w' H'->Ext ow az->Q .none H'):(aj (k+8)).aB .cV .kT [.ref j.ja,v] H Q:=by
 have hk:∀{o:O}{a:Nat},ow a=.k false o->∀{az H'},Ext ow az->Rel g az w H'->H' a=some o:=λha Z Z E R'=>R'.aM _ _ _ (E _ _ _ ha);induction t using Internal.Tree.casesOn with
 |run=>
  refine ht _ λu q50 hu=>?_;refine q50 _ λa q51 ha=>?_;clear q50;obtain rfl:=q51;refine bo rfl rfl rfl (cG (qb (lE (bh rfl) (lD (b:=true) (R.aM _ _ _ ha) rfl rfl (bq (bT ?_))))));exact bK (xd R Y.hi Y.hj rfl (λZ Z Z Z=>rfl) rfl (ao (bS rfl (R.aM _ _ _ ha) rfl) aA _ (DN R Y.hi Y.hj Y.hl hu λiR H1 R1 E1=>ar (ax (ar (cC (hQ _ _ _ .prog R1 E1)))))))
 |back t=>
  refine ht _ λu q52 hu=>?_;refine q52 _ λa q53 ha=>?_;clear q52;obtain rfl:=q53;refine bo rfl rfl rfl (cG (qb (lE (bh rfl) (lD (b:=false) (R.aM _ _ _ ha) rfl rfl (bq (aR ?_))))));refine cG (qb (lE (bh rfl) (lD (b:=false) (R.aM _ _ _ ha) rfl rfl (bq (aR ?_)))));refine cG (qb (lE (bh rfl) (lD (b:=true) (R.aM _ _ _ ha) rfl rfl (bq (bT ?_)))));refine pE R Y hP rfl (gY (st:=[.run t]) (.cons (tb (λaz H Q E R h=>gj rfl (hk ha E R) rfl h) hu ⟨_,rfl⟩) .nil)) (by show 1<500;decide)
   (λc ja az E=>gY (st:=[.exit 0]) (.cons (tc (λZ Z Z Z h=>da h) λZ Z h=>h) .nil)) (wX rfl) (by show 1<100;decide) λc ja iR H1 hc j4 R1 E1=>?_
  exact ar (ax (ar (ax (ar (ax (ar (cC (hQ _ _ _ (.back t c ja hc j4) R1 E1))))))))
 |semi l r=>
  refine ht _ λu u2 q54 hu QN=>?_;refine q54 _ λa q55 ha=>?_;clear q54;obtain rfl:=q55;refine bo rfl rfl rfl (cG (qb (lE (bh rfl) (lD (b:=false) (R.aM _ _ _ ha) rfl rfl (bq (aR ?_))))));refine cG (qb (lE (bh rfl) (lD (b:=false) (R.aM _ _ _ ha) rfl rfl (bq (aR ?_)))));refine cG (qb (lE (bh rfl) (lD (b:=false) (R.aM _ _ _ ha) rfl rfl (bq (aR ?_)))));refine cG (bD (bS rfl (R.aM _ _ _ ha) rfl) ox (JY (b:=true) rfl (bT ?_)));refine pE R Y hP rfl (gY (st:=[.run l]) (.cons (tb (λaz H Q E R h=>gj rfl (hk ha E R) rfl h) hu ⟨_,rfl⟩) .nil)) (by show 1<500;decide)
   (λc ja az E=>gY (st:=[.wait,.run r]) (.cons zw (.cons (tb (λKD H Q E' R h=>gj rfl (R.aM _ _ _ ((E.trans E') _ _ _ ha)) rfl h) (QN.ext E.i) ⟨_,rfl⟩) .nil))) (wX rfl) (by show 2<100;decide) λc ja iR H1 hc j4 R1 E1=>?_
  exact ar (ax (ar (ax (ar (ax (ar (ax (ar (cC (hQ _ _ _ (.semi l r c ja hc j4) R1 E1))))))))))
 |pipe l r=>
  have Z4:=ht;refine ht _ λu u2 q56 hu QN=>?_;refine q56 _ λa q57 ha=>?_;clear q56;obtain rfl:=q57;refine tD hP λdp UM hn uc=>?_;refine Qa dp λf3 f4 f5 vJ=>?_;refine bo rfl rfl rfl (cG (qb (lE (bh rfl) (lD (b:=false) (R.aM _ _ _ ha) rfl rfl (bq (aR ?_))))));refine cG (qb (lE (bh rfl) (lD (b:=false) (R.aM _ _ _ ha) rfl rfl (bq (aR ?_)))));refine cG (qb (lE (bh rfl) (lD (b:=false) (R.aM _ _ _ ha) rfl rfl (bq (aR ?_)))));refine cG (bD (bS rfl (R.aM _ _ _ ha) rfl) ox (JY (b:=false) rfl (aR ?_)));refine bK (xd R Y.hi Y.hj rfl (λZ Z Z Z=>rfl) rfl (ao (bh rfl) aA _ (Kz R Y vJ UM hn uc Z4 λf1 f2 c1 c2 wC x7 iR H1 q1 q2 q3 h1 YL h2 YM TB R1 E1=>?_)));exact ar (ax (ar (ax (ar (ax (ar (ax (ar (cC (hQ _ _ _ (.pipe l r f1 f2 c1 c2 wC x7 q1 q2 q3 h1 YL h2 YM TB) R1 E1))))))))))
theorem cf {nm:Nm}(hm:look .fc m=some (.str nm))(ht:decide (nm=Z9)=t)(h:if t=true then eK (ev C (n+2)) T m H (w7 (ev C (n+3)) ss F) else eK (ev C (n+2)) El m H (w7 (ev C (n+3)) ss F)):
  eK (ev C (n+3)) (.ez (.cmp .eq (.var .fc) (.str Z9)) T El::ss) m H F:=by
 subst ht;exact cG (bD (bh hm) ox (kr eq_str h))
theorem kD {nm:Nm}(hv:bQ ow v (.tuple (.str nm::xs)))(R:Rel g ow w H)(hm:look .dH m=some v)(h:eK (ev C (n+3)) ss (put .fc (.str nm) m) H F):eK (ev C (n+3)) (.asg .fc (.idx (.var .dH) (.int 0))::ss) m H F:=by
 refine hv _ λa q58 ha=>?_;clear hv;obtain rfl:=q58;exact dT (ku (bh hm) cS (JS (R.aM _ _ _ ha) (by decide) (by decide) rfl h))
theorem mV (hv:bQ ow v (.tuple xs))(R:Rel g ow w H)(hm:look .dH m=some v)(h0:0<=z)(h1:z<10000)(hx:xs[z.toNat]?=some u)(h:Q u H):(ev C (n+2)).E (.idx (.var .dH) (.int z)) m H Q:=by
 refine hv _ λa q59 ha=>?_;clear hv;obtain rfl:=q59;exact ku (bh hm) cS (JS (R.aM _ _ _ ha) h0 h1 hx h)
theorem OT (R:Rel g ow w H)(Y:Ready w i j sl){s:rN}(hs:i9 ow v s)(hP:Pre w i j sl s)(hQ:∀w' b az H',zA w i j sl s w' b->Rel g az w' H'->Ext ow az->Q (.bool b) H'):(aj (k+9)).aB .cV .uH [.ref j.ja,v] H Q:=by
 induction s with
 |run t=>
  refine hs _ λtv hv ht=>?_;refine bo rfl rfl rfl (kD hv R rfl (cf (t:=true) rfl rfl (bT ?_)));exact bK (xd R Y.hi Y.hj rfl (λZ Z Z Z=>rfl) rfl (aT (mV hv R rfl (by decide) (by decide) rfl (cA (TC R Y ht hP λw' az H' D R' E'=>ar (ax (b6 ug (bA (hQ _ _ _ _ D R' E')))))))))
 |cN t=>
  refine hs _ λtv hv ht=>?_;refine bo rfl rfl rfl (kD hv R rfl (cf (t:=false) rfl rfl (aR (cf (t:=true) rfl rfl (bT ?_)))));refine pE R Y hP rfl (gY (st:=[.run t]) (.cons (tb (λaz H Q E R h=>mV (hv.ext E.i) R rfl (by decide) (by decide) rfl h) ht ⟨_,rfl⟩) .nil)) (by show 1<500;decide)
   (λc ja az E=>gY (st:=[.until w.next]) (.cons (tc (λKD H Q R h=>?_) λZ Z h=>h) .nil)) (wX rfl) (by show 1<100;decide) λc ja iR H1 hc j4 R1 E1=>?_
  ·refine fq (R.mU Y.hi (j:=d8 j w.next) (by rw [fN];rfl)) λZ Z Z Z Z Z Z A J=>?_
   refine J.wy λsh hc=>?_;exact gj rfl hc rfl h
  ·exact ar (ax (ar (ax (b6 ug (bA (hQ _ _ _ _ (.cN t c ja hc j4) R1 E1))))))
 |lead d o=>
  refine UZ hP λd' o' f f' dp Zr h1 h2 h3 h4=>?_;subst dp;subst Zr;refine bo rfl rfl rfl (kD hs R rfl (cf (t:=false) rfl rfl (aR (cf (t:=false) rfl rfl (aR (cf (t:=true) rfl rfl (bT ?_)))))));exact bK (xd R Y.hi Y.hj rfl (λZ Z Z Z=>rfl) rfl (aT (mV hs R rfl (by decide) (by decide) rfl (aT (mV hs R rfl (by decide) (by decide) rfl (cA (OQ R Y h1 h2 h3 h4 λaz H' R' E'=>
   ar (ax (ar (ax (ar (ax (b6 ug (bA (hQ _ _ _ _ (.lead d' o' f f' h1 h2) R' E')))))))))))))))
 |close n=>
  refine pU hP λn' f dp h1=>?_;subst dp;obtain ⟨f1,f2⟩:=Y.hF.one Y.hi Y.gQ h1;refine bo rfl rfl rfl (kD hs R rfl (cf (t:=false) rfl rfl (aR (cf (t:=false) rfl rfl (aR (cf (t:=false) rfl rfl (aR (cf (t:=true) rfl rfl (bT ?_)))))))));exact bK (jK R (λQ h=>td R Y.hi Y.hj rfl h) rfl rfl (aT (xY R Y.hi Y.hj rfl (aT (mV hs R rfl (by decide) (by decide) rfl (cA (vN R Y.hc Y.hi Y.gQ h1 f1 f2 λaz H' R' E'=>
   ar (ax (ar (ax (ar (ax (ar (ax (b6 ug (bA (hQ _ _ _ _ (.close n' f h1) R' E')))))))))))))))))
 |wait=>
  refine gC hP λh1 h2 h3=>?_;refine bo rfl rfl rfl (kD hs R rfl (cf (t:=false) rfl rfl (aR (cf (t:=false) rfl rfl (aR (cf (t:=false) rfl rfl (aR (cf (t:=false) rfl rfl (aR (cf (t:=false) rfl rfl (aR (cf (t:=true) rfl rfl (bT ?_)))))))))))));exact fU (xd R Y.hi Y.hj rfl (λZ Z Z Z=>rfl) rfl (ao cR aA _ (BX (z:=none) R Y.hi Y.hj h3 h1 h2
   (λc az H' hc Tx hz R' E'=>k_ret (k_ret (k_ret (k_ret (k_ret (k_ret (bA (hQ _ _ _ _ (.Fj _ none c (.inl ⟨rfl,rfl⟩) hc Tx hz) R' E'))))))))
   (λaz H' hn R' E'=>k_ret (k_ret (k_ret (k_ret (k_ret (k_ret (bA (hQ _ _ _ _ (.Fm _ hn (.inl rfl)) R' E')))))))))))
 |«until» p=>
  refine gC hP λh1 h2 h3=>?_;refine bo rfl rfl rfl (kD hs R rfl (cf (t:=false) rfl rfl (aR (cf (t:=false) rfl rfl (aR (cf (t:=false) rfl rfl (aR (cf (t:=false) rfl rfl (aR (cf (t:=false) rfl rfl (aR (cf (t:=false) rfl rfl (aR (cf (t:=true) rfl rfl (bT ?_)))))))))))))));exact fU (xd R Y.hi Y.hj rfl (λZ Z Z Z=>rfl) rfl (aT (mV hs R rfl (by decide) (by decide) rfl (cA (BX (z:=some p) R Y.hi Y.hj h3 h1 h2
   (λc az H' hc Tx hz R' E'=>k_ret (k_ret (k_ret (k_ret (k_ret (k_ret (k_ret (bA (hQ _ _ _ _ (.Fj _ (some p) c (.inr ⟨p,rfl,rfl⟩) hc Tx hz) R' E')))))))))
   (λaz H' hn R' E'=>k_ret (k_ret (k_ret (k_ret (k_ret (k_ret (k_ret (bA (hQ _ _ _ _ (.Fm _ hn (.inr ⟨p,rfl⟩)) R' E'))))))))))))))
 |exit s=>
  obtain ⟨h1,h2⟩:=hP;refine bo rfl rfl rfl (kD hs R rfl (cf (t:=false) rfl rfl (aR (cf (t:=false) rfl rfl (aR (cf (t:=false) rfl rfl (aR (cf (t:=false) rfl rfl (aR (cf (t:=false) rfl rfl (aR (cf (t:=false) rfl rfl (aR (cf (t:=false) rfl rfl (aR ?_)))))))))))))));exact bK (jK R (λQ h=>td R Y.hi Y.hj rfl h) rfl rfl (aT (xY R Y.hi Y.hj rfl (aT (mV hs R rfl (by decide) (by decide) rfl (cA (BW R Y.hc Y.hF Y.hi h1 h2 Y.gQ λh' sl' az H' F' R' E'=>
   ar (ax (ar (ax (ar (ax (ar (ax (ar (ax (ar (ax (ar (ax (b6 ug (bA (hQ _ _ _ _ (.exit s h' sl' F') R' E')))))))))))))))))))))))
end
noncomputable def k8 (w:W)(i:Nat)(s:rN):W:=match (w.ps i).dq with
 |some j=>w.aL i (gm (w.ps i) (aO j (s::j.aI)))
 |none=>w
noncomputable def bU (w:W)(i:Nat)(j:Jb)(l:List rN):W:=w.aL i (gm (w.ps i) (aO j l))
section
theorem TF (hp:H p=some (.list xs))(hl:xs.length<1000)(hu:xs.getLast?=some u)(h:Q u (H.upd p (.list xs.dropLast))):pX C H .pop (.ref p) .xl [] Q:=MR.mk _ _ _ hp hl hu h
theorem zA.dq {s:rN}{w':W}{b:Bool}(D:zA w i j sl s w' b)(hj:(w.ps i).dq=some j)(hb:b=false):∃j',(w'.ps i).dq=some j'/\j'.aI=j.aI/\j'.ja=j.ja:=by
 induction D with
 |prog=>injection hb
 |back=>injection hb
 |semi=>injection hb
 |pipe=>injection hb
 |cN=>injection hb
 |lead=>injection hb
 |close=>injection hb
 |Fj _ z c hs hc hi hz=>exact ⟨s9 j (j.bl++[((w.ps c).aS,(w.ps c).status)]),by unfold oD;rw [ah];rfl,rfl,rfl⟩
 |Fm _ hn hs=>exact ⟨j,by rw [ah];exact hj,rfl,rfl⟩
 |exit=>injection hb
theorem Ready.pop (Y:Ready w i j sl)(hl:l.length<300):Ready (bU w i j l) i (aO j l) sl:=by
 have wY:(bU w i j l).ps i=gm (w.ps i) (aO j l):=ah;have hx:∀x,x≠i->(bU w i j l).ps x=w.ps x:=λx hx=>aD hx;refine (.mk Y.hi (by rw [wY];rfl) (by rw [wY];exact Y.hu) (by rw [wY];exact Y.gQ) (Y.hF.congr (λx=>?_) rfl rfl) (λx oR hs=>?_) hl (λx oR hs=>?_) (.mk Y.hc.eu Y.hc.dG))
 ·by_cases e:x=i
  ·subst e;rw [wY];rfl
  ·rw [hx x e]
 ·by_cases e:x=i
  ·subst e;rw [wY];exact Y.eI x oR Y.hu
  ·rw [hx x e] at hs ⊢;exact Y.eI x oR hs
 ·by_cases e:x=i
  ·subst e;rw [wY] at hs;exact absurd hs Y.hu
  ·rw [hx x e] at hs ⊢;exact Y.jx x oR hs
theorem eP.cons {s:rN}(h:eP ow H i kk (s::rest)):∃v vs,H kk=some (.list (vs.reverse++[v]))/\i9 ow v s/\bZ (i9 ow) vs rest/\vs.length<499:=by
 refine h.el λok xs hx kI W0=>?_;have hxe:xs=xs.reverse.reverse:=(List.reverse_reverse _).symm;have Cy:xs.reverse.length<500:=by rw [List.length_reverse];exact W0
 replace hx:=(hxe)▸hx;generalize xs.reverse=ys at hx kI Cy;cases kI with
 |cons h1 h2=>exact ⟨_,_,by rw [List.reverse_cons] at hx;exact hx,h1,h2,Nat.lt_of_succ_lt_succ Cy⟩
theorem OU (R:Rel g ow w H)(Y:Ready w i j sl){s:rN}(d0:j.aI=s::rest)(hP:Pre (bU w i j rest) i (aO j rest) sl s)
  (hQ:∀w' b az H',zA (bU w i j rest) i (aO j rest) sl s w' b->Rel g az (if b then w' else k8 w' i s) H'->Ext ow az->Q (.bool b) H'):(aj (k+10)).aB .cV .dH [.ref j.ja] H Q:=by
 refine fq (R.mU Y.hi Y.hj) λcv nm tn rg fv kk t A J=>?_;refine J.wy λsh hc=>?_;have hJ:=J.aI;simp only [d0] at hJ;refine Ae hJ.cons λv vs hx hv j0 YN=>?_;have hl:rest.length<300:=by have:=Y.hl;rw [d0] at this;exact Nat.lt_of_succ_lt this
 refine bo rfl rfl rfl (cG (iJ (gj rfl hc rfl (gG aA (λb hb=>Wz (b:=false) (fi (ow:=ow) (l:=.other) hb _ _ hx).2 (ak _ _ _) (by induction vs.reverse<;>rfl) (aR (ar (ax ?_))))))));have R1:=R.dM hb (m:=false) (o:=.list []);have E1:=aq R hb (.k false (.list []));refine fq (R1.mU Y.hi Y.hj) λcv nm tn rg fv kk t A J=>?_;refine J.wy λsh hc=>?_;have hJ:=J.aI;simp only [d0] at hJ;refine Ae hJ.cons λv vs hx hv j0 YN=>?_;refine dT (e7 (bS rfl hc rfl) (JR hx ⟨rfl,cA (TF hx (by rw [List.length_append,List.length_reverse];exact Nat.lt_of_le_of_lt ‹_› (by decide)) (by rw [List.getLast?_append];rfl) ?_)⟩));refine (List.dropLast_concat)▸?_;have R2:Rel g _ (bU w i j rest) _:=R1.vv Y.hi A J (vs:=vs.reverse) (st:=rest) (by rw [List.reverse_reverse];exact j0) (by rw [List.length_reverse];exact Nat.lt_succ_of_lt ‹_›);have Y2:=Y.pop hl;refine cG (EX (qG (xd R2 Y2.hi Y2.hj rfl (λZ Z Z Z=>rfl) rfl (ao (bh rfl) aA _ (OT R2 Y2 hv hP λw' b CD H3 D R3 E3=>bq ?_)))));induction b with
 |true=>exact aR (ar (ax (b6 ug (bA (hQ _ _ _ _ D R3 (E1.trans E3))))))
 |false=>
  refine tE (D.dq Y2.hj rfl) λj' k0 qm Ml=>?_;refine fq (R3.mU Y.hi k0) λcv nm tn rg fv kk t A J=>?_;refine J.wy λsh hc=>?_;refine J.aI.el λok xs hx kI W0=>?_;rw [Ml] at hc A;have hlen:xs.length=rest.length:=by have:=kI.len;rw [List.length_reverse,qm] at this;exact this
  refine bT (cG (iJ (zg (bS rfl hc rfl) (iH A.h rfl (dY rfl (jW (vB hc hc (beq_self_eq_true _)) (bT ?_)))))));refine bK (e7 (bS rfl hc rfl) (l7 hx ⟨rfl,ao (bh rfl) aA _ (j3 hx (by exact Nat.lt_of_lt_of_le ‹_› (by decide)) (ar (ax (b6 GW (k_ret (bA (hQ _ _ _ _ D ?_ (E1.trans E3))))))))⟩));rw [<- Ml] at A;have:=R3.vv Y.hi A J (vs:=xs++[v]) (st:=s::j'.aI) (by rw [List.reverse_append];exact .cons (hv.ext E3.i) kI) (by rw [List.length_append];refine (?_:_+1<500);grind only);refine (?_:Rel g CD (k8 w' i s) _);unfold k8;refine (k0)▸?_;exact this
end
def Xa (P:Pr):Pr:={P with st:=.aU,cF:=.lines}
def eY (w:W)(j:Nat):W:=if (w.ps j).st=.aF then w.aL j (qU (w.ps j)) else w
inductive oG (w:W)(j:Nat):W->Prop where
 |idle (jb:Jb) (h0:j=0) (hj:(w.ps j).dq=some jb) (hs:jb.aI=[]):oG w j ((aX w j).aL j (Xa ((aX w j).ps j)))
 |step (jb sl s rest w1 b) (hj:(w.ps j).dq=some jb) (hf:(w.ps j).fl=some sl) (d0:jb.aI=s::rest) (D:zA (bU (aX w j) j jb rest) j (aO jb rest) sl s w1 b):oG w j (eY (if b then w1 else k8 w1 j s) j)
def e8.ZF (w:W)(j:Nat)(Z:Prop):Prop:=∀(h:∃jb sl,Ready (aX w j) j jb sl/\((j=0/\jb.aI=[])\/∃s rest,jb.aI=s::rest/\Pre (bU (aX w j) j jb rest) j (aO jb rest) sl s)),Z
def e8 (w j):=∀Z:Prop,e8.ZF w j Z->Z
theorem e8.mk:e8.ZF w j (e8 w j):=λh _ Z=>Z h
def e8.h (Z:e8 w j):=Z _ λh=>h
def pQ (w:W)(j:Nat):Prop:=j<24/\(w.ps j).st=.bB/\∀j',j'<24->(w.ps j').st=.bB->nB w.last j<=nB w.last j'
section
theorem oH:((aX w i).ps i)=qd (w.ps i) .aF:=ah
theorem vR (R:Rel g ow w H)(hi:i<24)(l1:look .ab m=some (.ref (g.pa i)))(l2:look .aW m=some (.ref g.tab))(hQ:∀H',Rel g ow (eY w i) H'->eK (ev (aj (k+1)) (n+5)) ss m H' F):
  eK (ev (aj (k+1)) (n+5)) (.ez (.cmp .eq (.attr (.var .ab) .dP) (.str .aF)) [(.expr (.aB (.var .aW) .bB [(.var .ab)]))] []::ss) m H F:=by
 refine R.pw hi λcv nm tn rg fv jv A=>?_;refine cG (bD (bS l1 A.h rfl) ox (kr eq_str ?_));unfold eY at hQ;by_cases hs:(w.ps i).st=.aF
 ·rw [decide_eq_true hs]
  replace hQ:=(if_pos hs)▸hQ;exact bT (bK (qI R (bh l2) (λZ Z Z Z=>rfl) rfl (ao (bh l1) aA _ (oy R hi λH' R' Z=>ar (ax (hQ _ R'))))))
 ·rw [decide_eq_false hs]
  replace hQ:=(if_neg hs)▸hQ;exact aR (ar (ax (hQ _ R)))
theorem zC (R:Rel g ow w H)(zD:∀j,pQ w j->e8 w j) (hQ:∀j w' az H',pQ w j->oG w j w'->Rel g az w' H'->Ext ow az->Q (.bool true) H') (hN:(∀j,j<24->(w.ps j).st≠.bB)->Q (.bool false) H):
  (aj (k+11)).fn .eS [.ref g.tab,.ref (g.pa 0)] H Q:=by
 refine sZ rfl rfl rfl (dT (qI R (bh rfl) (λZ Z Z Z=>rfl) rfl (cA (OA R (λi H1 hi hr hn R1=>?_) (λhn=>?_)))))
 ·have Fo:pQ w i:=⟨hi,hr,hn⟩
  refine pU ((zD i Fo).h) λjb sl Y UO=>?_;refine fq (R1.mU hi Y.hj) λcv nm tn rg fv kk t A J=>?_;refine J.wy λsh hc=>?_;refine J.aI.el λok xs hx kI W0=>?_;have iq:(w.ps i).dq=some jb:=by have:=Y.hj;rw [oH] at this;exact this
  have hf0:(w.ps i).fl=some sl:=by have:=Y.gQ;rw [oH] at this;exact this
  refine R1.pw (i:=0) (by decide) λZ Z Z Z Z Z A0=>?_;refine cG (bD (bh rfl) cR (jW (.xn _ rfl) (aR (ar (ax ?_)))));have stp:∀s rest,jb.aI=s::rest->Pre (bU (aX w i) i jb rest) i (aO jb rest) sl s->∀oA H2,Rel g oA (aX w i) H2->Ext ow oA->∀m' ss' F',look .ab m'=some (.ref (g.pa i))->
    (∀w' az H',Rel g az w' H'->Ext ow az->(∃w1 b,zA (bU (aX w i) i jb rest) i (aO jb rest) sl s w1 b/\w'=if b then w1 else k8 w1 i s)->eK (ev (aj (k+10)) 39) ss' m' H' F')->
    eK (ev (aj (k+10)) 39) (.expr (.aB (.attr (.var .ab) .gL) .dH [])::ss') m' H2 F':=by
   intro s rest d0 hP oA H2 R2 E2 m' ss' F' hm hK;refine fq (R2.mU hi Y.hj) λZ Z Z Z Z Z Z A J=>?_;refine J.wy λsh hc=>?_;exact bK (fW (bS hm A.h rfl) hc rfl rfl rfl aA (OU R2 Y d0 hP λw1 b CD H3 D R3 E3=>hK _ _ _ R3 (E2.trans E3) ⟨w1,b,D,rfl⟩))
  refine cG (vA (bD (bh rfl) (bh rfl) (jW (vB A.h A0.h rfl) ?_)));induction he:(g.pa i==g.pa 0) with
  |false=>
   have dw:i≠0:=λe=>by rw [e,beq_self_eq_true] at he;exact Bool.noConfusion he
   rcases UO with hz|hz
   ·obtain ⟨h0,_⟩:=hz
    exact absurd h0 dw
   ·obtain ⟨s,rest,d0,hP⟩:=hz
    refine aR (aR (stp s rest d0 hP _ _ R1 .rfl' _ _ _ rfl λw' az H' R' E' hD=>ar (ax ?_)));refine pU hD λw1 b D dp=>?_;subst dp;exact vR R' hi rfl rfl λH5 R5=>b6 ug (bA (hQ i _ _ _ Fo (.step jb sl s rest w1 b iq hf0 d0 D) R5 E'))
  |true=>
   have h0:i=0:=JZ R1 hi (by decide) (eq_of_beq he);refine bT (iJ (zg (bS rfl A.h rfl) (iH hc rfl (gG aA (λb hb=>kr (eq_nil (fi (ow:=ow) (l:=.other) hb _ _ hx).2 (ak _ _ _)) ?_)))));have R2:=R1.dM hb (m:=false) (o:=.list []);have E2:=aq R1 hb (.k false (.list []));rcases UO with hz|hz
   ·obtain ⟨_,d0⟩:=hz
    replace kI:=(d0)▸kI;have hxn:xs=[]:=List.eq_nil_of_length_eq_zero (by have:=kI.len;rw [List.length_reverse] at this;exact this);subst hxn;refine bT (bK (qI R2 (bh rfl) (λZ Z Z Z=>rfl) rfl (aT (dY rfl (aT (jB (ao ox aA) (λc hc=>cA ?_)))))));have R3:=R2.dM hc (m:=false) (o:=.tuple [.str .rn]);refine BE R3 hi (c:=.lines) (.mk c rfl (aC _ _ _)) (S7 rfl) λH4 R4=>ar (ax ?_);refine vR R4 hi rfl rfl λH5 R5=>b6 ug (bA (hQ i _ _ _ Fo (.idle jb h0 iq d0) ?_ (E2.trans (aq R2 hc (.k false (.tuple [.str .rn]))))));unfold eY at R5;rw [ah] at R5;exact R5
   ·obtain ⟨s,rest,d0,hP⟩:=hz
    simp only [d0] at kI;have hxn:xs.isEmpty=false:=by
     induction xs with
     |nil=>cases kI
     |cons=>rfl
    rw [hxn];refine aR (stp s rest d0 hP _ _ R2 E2 _ _ _ rfl λw' az H' R' E' hD=>ar (ax ?_));refine pU hD λw1 b D dp=>?_;subst dp;exact vR R' hi rfl rfl λH5 R5=>b6 ug (bA (hQ i _ _ _ Fo (.step jb sl s rest w1 b iq hf0 d0 D) R5 E'))
 ·exact cG (bD (bh rfl) cR (jW .nn (bT (b6 GW (k_ret (bA (hN hn)))))))
end
noncomputable def te (z:Int):Tree:=if z=0 then .run else if z=1 then .back .run else .semi (.back .run) (.back (.pipe .run .run))
noncomputable def fO (z:Int):Int:=if z=0 then 1 else 0
noncomputable def kQ (z:Int):List Int:=if z=0 then [] else if z=1 then [1] else [1,0]
def TG (C:Calls)(n:Nat)(m:Loc)(g:Ad)(w:W)(e:E)(t:Tree):Prop:=
 ∀ow H Q,Rel g ow w H->(∀az H' v,Rel g az w H'->Ext ow az->fB az v t->Q v H')->(ev C n).E e m H Q
section
theorem rX:TG (aj (k+1)) (n+3) m g w (.new .fT [.lst []]) .run:=λow H Q R hQ=>by
 refine nj rfl (aT (gG aA (λa0 h0=>cA λa ha=>?_)));have dw:a0≠a:=λe=>by rw [<- e,ak] at ha;injection ha
 refine bo rfl rfl rfl (eW (l9 (bh rfl) (iI ((aY dw _).trans (ak _ _ _)) ⟨by decide,λa1 h1=>dY rfl ?_⟩)));have e1:a1≠a:=λe=>by rw [e,ak] at h1;injection h1
 rw [dy e1.symm];rw [aY e1] at h1;refine gz rfl (Nat.zero_lt_succ 0) rfl λhb=>ar (cC ⟨rfl,?_⟩);have R1:=R.dM h0 (m:=false) (o:=.list []);have R2:=R1.dM h1 (m:=false) (o:=.list []);have h3:=(aY e1.symm (.list [])).trans ha;have R3:=R2.dM h3 (m:=false) (o:=.inst .fT [(.eM,.ref a1)]);exact hQ _ _ _ R3 (((aq R h0 _).trans (aq R1 h1 _)).trans (aq R2 h3 _)) (.mk (.ref a1) (.mk a rfl (aC _ _ _)) (.mk a1 rfl ((bC e1 _).trans (aC _ _ _))))
theorem vS (he:TG (aj (k+1)) n m g w e t):TG (aj (k+1)) (n+1) m g w (.new .eE [e]) (.back t):=λow H Q R hQ=>by
 refine nj rfl (aT (he _ _ _ R λiR H1 v R1 E1 hv=>cA λa ha=>?_));refine bo rfl rfl rfl (bH (λZ h=>dY rfl h) rfl rfl (Nat.zero_lt_succ 0) rfl λhb=>ar (cC ⟨rfl,?_⟩));exact hQ _ _ _ (R1.dM ha (m:=false) (o:=.inst .eE [(.iV,v)])) (E1.trans (aq R1 ha _)) (.mk v (.mk a rfl (aC _ _ _)) (hv.ext (aq R1 ha _).i))
theorem BZ (ht:∀ow v x y,bQ ow v (.inst .fY [(.nR,.str sg),(.eG,x),(.jS,y)])->fB ow x l->fB ow y r'->fB ow v t) (h1:TG (aj (k+1)) (n+1) m g w e1 l) (h2:TG (aj (k+1)) (n+1) m g w e2 r'):
  TG (aj (k+1)) (n+2) m g w (.new .fY [.str sg,e1,e2]) t:=λow H Q R hQ=>by
 refine nj rfl (aT (BB (aT (h1 _ _ _ R λiR H1 v R1 E1 hv=>aT (h2 _ _ _ R1 λoA H2 v2 R2 E2 ED=>cA λa ha=>?_)))));refine bo rfl rfl rfl (bH (λZ h=>dY rfl h) rfl rfl (Nat.zero_lt_succ 0) rfl λhb=>bH (λZ h=>dY rfl h) rfl rfl hb rfl λhb=>bH (λZ h=>dY rfl h) rfl rfl hb rfl λhb=>ar (cC ⟨rfl,?_⟩));have E3:=aq R2 ha (.k false (.inst .fY [(.nR,.str sg),(.eG,v),(.jS,v2)]));exact hQ _ _ _ (R2.dM ha (m:=false)) ((E1.trans E2).trans E3) (ht _ _ v v2 (.mk a rfl (aC _ _ _)) (hv.ext (E2.trans E3).i) (ED.ext E3.i))
theorem vT {ls:List Int}(he:TG (aj k) n m g w e t)(hs:∀H Q,Q (.int zs) H->(ev (aj k) n).E e1 m H Q) (hl:∀H (q:LP),q (ls.map .int) H->nH (ev (aj k) n') es m H q) (hn:n=n'+1) (R:Rel g ow w H)
  (hQ:∀az H' v tv lv,Rel g az w H'->Ext ow az->bQ az v (.tuple [tv,.int zs,lv])->fB az tv t->bQ az lv (.list (ls.map .int))->F (.ret v) m H'):
  eK (ev (aj k) (n+2)) (.ret (.tup [e,e1,.lst es])::ss) m H F:=by
 subst hn;refine fU (xR (aT (he _ _ _ R λiR H1 v R1 E1 hv=>aT (hs _ _ (aT (JP (hl _ _ λa ha=>cA λb hb=>?_)))))));have R2:=R1.dM ha (m:=false) (o:=.list (ls.map .int));have E2:=aq R1 ha (.k false (.list (ls.map .int)));have E3:=aq R2 hb (.k false (.tuple [v,.int zs,.ref a]));exact hQ _ _ _ v (.ref a) (R2.dM hb (m:=false)) ((E1.trans E2).trans E3) (.mk b rfl (aC _ _ _)) (hv.ext (E2.trans E3).i) (.mk a rfl (E3 _ _ _ (aC _ _ _)))
theorem Fp (R:Rel g ow w H){z:Int}(h0:0<=z)(h3:z<3)(hQ:∀az H' v tv lv,Rel g az w H'->Ext ow az->bQ az v (.tuple [tv,.int (fO z),lv])->fB az tv (te z)->bQ az lv (.list ((kQ z).map .int))->Q v H'):
  (aj (k+2)).fn .iU [.int z] H Q:=by
 refine sZ rfl rfl rfl (cG (bD (bh rfl) cS (kr eq_int ?_)));by_cases hz:z=0
 ·subst hz
  exact bT (vT (ls:=[]) rX (λZ Z h=>da h) (λZ Z h=>cA h) rfl R λaz H' v tv lv R' E' a b c=>k_ret (bA (hQ _ _ _ _ _ R' E' a b c)))
 rw [decide_eq_false hz];refine aR (ar (ax (cG (bD (bh rfl) cS (kr eq_int ?_)))));by_cases UP:z=1
 ·subst UP
  exact bT (vT (ls:=[1]) (vS rX) (λZ Z h=>da h) (λZ Z h=>ao cS aA _ h) rfl R λaz H' v tv lv R' E' a b c=>k_ret (bA (hQ _ _ _ _ _ R' E' a b c)))
 rw [decide_eq_false UP];have MQ:z=2:=by grind only
 subst MQ;exact aR (ar (ax (vT (ls:=[1,0]) (BZ (t:=.semi (.back .run) (.back (.pipe .run .run))) (λow v x y a b c=>(.mk x y a b c)) (vS rX) (vS (BZ (t:=.pipe .run .run) (λow v x y a b c=>(.mk x y a b c)) rX rX))) (λZ Z h=>da h) (λZ Z h=>ao cS (ao cS aA) _ h) rfl R
  λaz H' v tv lv R' E' a b c=>bA (hQ _ _ _ _ _ R' E' a b c))))
theorem Xb (h:(ev C n).E a m H λv H=>IB H Q v):(ev C (n+1)).E (.abs a) m H Q:=h
theorem TH (h:Q (.int z.natAbs) H):IB H Q (.int z):=.mk _ h
theorem Fq (h1:-(2 ^ 30)<z/\z<2 ^ 30∧-(2 ^ 30)<z'/\z'<2 ^ 30)(h:Q (.int (z*z')) H):wU H .mul (.int z) (.int z') Q:=.mul _ _ h1.1 h1.2.1 h1.2.2.1 h1.2.2.2 h
def HV.ZF (ow:Ow)(b pl:Nat)(ns:List Int)(Z:Prop):Prop:=∀(h:∃l,ow b=.k true (.list [.ref l,.int pl])/\ow l=.k false (.list (ns.map .int))/\l≠b) (len:ns.length<100),Z
def HV (ow b pl ns):=∀Z:Prop,HV.ZF ow b pl ns Z->Z
theorem HV.mk:HV.ZF ow b pl ns (HV ow b pl ns):=λh len _ Z=>Z h len
def HV.h (Z:HV ow b pl ns):=Z _ λh len=>h
def HV.len (Z:HV ow b pl ns):=Z _ λh len=>len
theorem KG (R:Rel g ow w H)(B:HV ow b pl ns)(hp:pl<1000)(hz:0<z)
  (hQ:∀az H' r,0<=r->r<z->Rel g az w H'->(∀a mm o,ow a=.k mm o->a≠b->az a=.k mm o)->HV az b (pl+1) ns->Q (.int r) H'):(aj (k+1)).fn .eR [.ref b,.int z] H Q:=by
 refine B _ λq63 hlen=>?_;obtain ⟨l,ob,ol,YO⟩:=q63;have hb:=R.aM _ _ _ ob;refine sZ rfl rfl rfl (dT (ku (bh rfl) cS (qa hb (by decide) (by decide) rfl ?_)));refine xQ (s7 (bh rfl) cS (pA (dY rfl (da (vy hb (by decide) (by decide) (Nat.le_of_ble_eq_true rfl) ?_)))));have R1:=R.mod ob (l:=.k true (.list [.ref l,.int (pl+1:Nat)])) (o1:=.list [.ref l,.int ((pl:Int)+1)]) (λZ Z e=>by cases e;rfl);have ob1:(ow.set b (.k true (.list [.ref l,.int (pl+1:Nat)]))) b=_:=aC _ _ _;have ol1:(ow.set b (.k true (.list [.ref l,.int (pl+1:Nat)]))) l=.k false (.list (ns.map .int)):=(bC YO _).trans ol;have hb1:=R1.aM _ _ _ ob1;have YN:=R1.aM _ _ _ ol1;have fin:∀u:Int,∀m,look .bF m=some (.int u)->look .gb m=some (.int z)->eK (ev (aj k) 40) [.ret (.bin .mod (.var .bF) (.var .gb))] m (H.upd b (.list [.ref l,.int ((pl:Int)+1)])) (Internal.fin Q):=λu m h1 h2=>
  fU (s7 (bh h1) (bh h2) (WA hz (bA (hQ _ _ _ (Int.emod_nonneg _ (Int.ne_of_gt hz)) (Int.emod_lt_of_pos _ hz) R1 (λa mm o ha dw=>(bC dw _).trans ha) (.mk ⟨l,ob1,ol1,YO⟩ hlen)))))
 refine dT (zr (iJ (dY rfl (QG (ku (bh rfl) cS (qa hb1 (by decide) (by decide) rfl (zd YN (by rw [List.length_map];exact Nat.lt_of_lt_of_le ‹_› (by decide)) (BM rfl ?_))))))));by_cases fX:(pl:Int)<((ns.map V.int).length:Int)
 ·rw [decide_eq_true fX]
  rw [List.length_map] at fX;have aau:pl<ns.length:=by omega
  have hx:(ns.map V.int)[((pl:Int)).toNat]?=some (.int ns[pl]):=by simp only [Int.toNat_natCast,List.getElem?_map,List.getElem?_eq_getElem aau];rfl
  exact bT (Xb (QF (ku (bh rfl) cS (qa hb1 (by decide) (by decide) rfl (dY rfl (qa YN (Int.natCast_nonneg _) (by omega) hx (TH (fin _ _ rfl rfl))))))))
 ·rw [decide_eq_false fX]
  exact aR (p9 (s7 cS (bh rfl) (Fq ⟨by decide,by decide,by omega,by omega⟩ (da (pA (fin _ _ rfl rfl))))))
end
def oI (w:W)(jb:Jb)(z:Int):W:=if (w.ps 0).st=.aU then w.aL 0 (qU (gm (w.ps 0) (aO jb [.cN (te z)]))) else w.aL 0 (gm (w.ps 0) (aO jb [.cN (te z)]))
section
theorem OW (hl:look x m=some tv)(ht:fB wB tv t):Mk C (n+2) m g w wB (.tup [.str .ix,.var x]) (.cN t):=
 λow H Q E R hq=>jB (ao ox (ao (bh hl) aA)) (λa ha=>hq _ _ _ (R.dM ha (m:=false)) (aq R ha _) (.mk tv (.mk a rfl (aC _ _ _)) (ht.ext (E.trans (aq R ha _)).i)))
theorem Hg (R:Rel g ow w H)(hj:(w.ps 0).dq=some jb)(hm:look .aV m=some (.ref (g.pa 0)))(hQ:∀az H',Rel g az w H'->Ext ow az->QT jb.aI.isEmpty H'):
  (ev C (n+4)).T (.cmp .eq (.attr (.attr (.var .aV) .gL) .eN) (.lst [])) m H QT:=by
 refine fq (R.mU (i:=0) (by decide) hj) λcv nm tn rg fv kk t A J=>?_;refine J.wy λsh hc=>?_;refine J.aI.el λok xs hx kI W0=>?_;have he:xs.isEmpty=jb.aI.isEmpty:=by
  have:=kI.len;rw [List.length_reverse] at this;induction xs with
  |nil=>induction hs:jb.aI with|nil=>rfl|cons a b=>rw [hs] at this;injection this
  |cons a b=>induction hs:jb.aI with|nil=>replace this:=(hs)▸this;cases this|cons c d=>rfl
 refine iJ (zg (bS hm A.h rfl) (iH hc rfl (gG aA (λb hb=>kr (eq_nil (fi (ow:=ow) (l:=.other) hb _ _ hx).2 (ak _ _ _)) ?_))));rw [he];exact hQ _ _ (R.dM hb (m:=false)) (aq R hb _)
theorem OX (R:Rel g ow w H)(h0:0<=z)(h3:z<3)(hj:(w.ps 0).dq=some jb)(hs:jb.aI=[])(I:Nat->W->Prop)(hI:I 0 (oI w jb z))
  (KH:∀k w,k<150->I k w->∃jb,(w.ps 0).dq=some jb/\(jb.aI=[]\/(jb.aI≠[]/\(∃i,i<24/\(w.ps i).st=.bB)/\∀i,pQ w i->e8 w i/\∀w',oG w i w'->I (k+1) w')))
  (TJ:∀w,¬I 150 w) (hQ:∀k w' jb az H',k<150->I k w'->(w'.ps 0).dq=some jb->jb.aI=[]->Rel g az w' H'->Ext ow az->Q (.int w.next) H'):
  (aj 12).fn .iT [.ref g.tab,.ref (g.pa 0),.int z,.int 150] H Q:=by
 refine sZ rfl rfl rfl (oq (jw rfl (ao (bh rfl) aA) (Fp R h0 h3 λiR H1 v tv lv R1 E1 vG ht hlv=>?_)));refine vG _ λa q62 hv=>?_;clear vG;obtain rfl:=q62;refine vw (R1.aM _ _ _ hv) rfl ?_;refine fq (R1.mU (i:=0) (by decide) hj) λcv nm tn rg fv kk t A J=>?_;refine J.wy λsh hc=>?_;refine bK (e7 (bS rfl A.h rfl) (jz hc rfl rfl ⟨rfl,aT (DL (st:=[.cN (te z)]) (.cons (OW rfl ht) .nil) R1 λoA H2 v R2 E2 hv=>cA (mP (DK R2 (by decide) hj hv (wX rfl) (by rw [hs];exact Nat.le_of_ble_eq_true rfl) λCD H3 R3 E3=>?_)))⟩));have aav:=(E1.trans E2).trans E3;replace R3:=(hs)▸R3;have rest:∀w2 H4,w2.next=w.next->Rel g CD w2 H4->I 0 w2->eK (ev (aj 11) 40) [.asg .lK (.attr (.var .aW) .gc),
   .iy .ix (.range (.var .dW)) [(.ez (.cmp .eq (.attr (.attr (.var .aV) .gL) .eN) (.lst [])) [(.ret (.var .lK))] []),(.ez (.jq (.dQ .eS [(.var .aW),(.var .aV)])) [.dead] [])],.dead]
   [(.aW,.ref g.tab),(.aV,.ref (g.pa 0)),(.iQ,.int z),(.dW,.int 150),(.d3,tv),(.bx,.int (fO z)),(.eG,lv)] H4 (Internal.fin Q):=by
  intro w2 H4 hn R4 hI;refine R4.tQ λZ run Xc=>?_;rw [hn] at Xc;refine DC (bS rfl Xc.h rfl) (l6 (rS (dY rfl (md (by decide) (by unfold small;decide) ?_))));refine fV (λl m H'=>∃w' az,I l w'/\Rel g az w' H'/\Ext ow az/\look .aV m=some (.ref (g.pa 0))/\look .aW m=some (.ref g.tab)/\look .lK m=some (.int w.next)) ?_ ?_ ⟨w2,CD,hI,R4,aav,rfl,rfl,rfl⟩
  ·intro l v m H' K hv mQ hK
   refine UX mQ λw' az YQ R' E' l1 l2 l3=>?_;refine cX (pB hv) λdp fX=>?_;subst dp;refine ⟨trivial,?_⟩;have hl:l<150:=by omega
   have OG:=lk (x:=.ix) (v:=V.int (0+l)) (y:=.aV) (by decide) l1;have QK:=lk (x:=.ix) (v:=V.int (0+l)) (y:=.aW) (by decide) l2;have l3':=lk (x:=.ix) (v:=V.int (0+l)) (y:=.lK) (by decide) l3;refine aQ (KH l w' hl YQ) λB5 k0 UO=>?_;refine cG (Hg R' k0 OG λWX H5 R5 E5=>?_);rcases UO with Xd|hz
   ·rw [Xd]
    exact bT (b6 (bh l3') (k_ret (k_ret (bA (hQ l w' B5 _ _ hl YQ k0 Xd R5 (E'.trans E5))))))
   ·obtain ⟨dw,hr,hN⟩:=hz
    have:B5.aI.isEmpty=false:=by induction hh:B5.aI with|nil=>exact absurd hh dw|cons a b=>rfl
    refine (this)▸?_;refine aR (ar (ax (cG (EX (EY (jw rfl (ao (bh QK) (ao (bh OG) aA)) (zC R5 (λi hi=>(hN i hi).1) (λi w6 QO H6 hi hT R6 E6=>bq ?_) (λhn=>?_))))))))
    ·exact aR (ar (ax (ar (hK _ _ ⟨w6,QO,(hN i hi).2 w6 hT,R6,(E'.trans E5).trans E6,OG,QK,l3'⟩))))
    ·refine aQ hr λi hi hir=>?_
     exact absurd hir (hn i hi)
  ·intro m H' mc
   refine pU mc λw' az YQ Z=>?_;exact absurd YQ (TJ w')
 refine R3.pw (i:=0) (by decide) λcv nm tn rg fv jv A=>?_;rw [ah] at A;refine cG (bD (bS rfl A.h rfl) ox (kr eq_str ?_));unfold oI at hI;refine (?_:if decide ((w.ps 0).st=.aU)=true then _ else _);by_cases vJ:(w.ps 0).st=.aU
 ·rw [decide_eq_true vJ]
  rw [if_pos vJ] at hI;refine bT (bK (qI R3 (bh rfl) (λZ Z Z Z=>rfl) rfl (ao (bh rfl) aA _ (oy R3 (by decide) λH4 R4 Z=>ar (ax ?_)))));rw [dn,ah] at R4;exact rest (w.aL 0 (qU (gm (w.ps 0) (aO jb [.cN (te z)])))) _ rfl R4 hI
 ·rw [decide_eq_false vJ]
  rw [if_neg vJ] at hI;exact aR (ar (ax (rest (w.aL 0 (gm (w.ps 0) (aO jb [.cN (te z)]))) _ rfl R3 hI)))
end
def Kn (ow:Ow)(H:Hp):Prop:=∀a m o,ow a=.k m o->H a=some o
def qg (ow:Ow)(H:Hp)(a:Nat)(l:oj)(o:O):Prop:=ow a=l/\H a=some o
def prN (i rg:Nat):NV:=[(.dO,.int i),(.cY,.int 0),(.dP,.str .ae),(.cP,.none),(.jT,.none),(.ft,.ref rg),
 (.CV,.int 0),(.bX,.none),(.rh,.none),(.mz,.str .mv),(.ck,.none),(.lN,.bool false),(.bx,.int 0),(.lM,.none),
 (.iX,.int 0),(.kg,.none),(.rt,.none),(.gL,.none),(.oW,.int 0)]
def PN (ow:Ow)(H:Hp)(p i:Nat):Prop:=∃rg,qg ow H p (.proc i) (.inst .bw (prN i rg))/\fg ow H i rg
theorem OY {i a:Nat}:DF [(.dO,.int i)] a=prN i a:=by kernel_rfl
def KI (pl:Nat):NV:=[(.fe,.ref pl),(.gc,.int 1),(.so,.int 23),(.aV,.none),(.aF,.none)]
section
variable {H H' Hb:Hp}
variable {ow az wB:Ow}{i:Nat}
theorem b1 {q:Loc->Prop}(h:q (put x v m)):bind1 x v m H q:=h
theorem Fs (h:QT true H):yO r none m H QT:=h
theorem Kn.new (K:Kn ow H)(h:H a=none)(hk:∀m o',l=.k m o'->o'=o):Kn (ow.set a l) (H.upd a o):=λb m o' hb=>by
 by_cases e:b=a
 ·subst e;rw [aC] at hb;rw [ak,hk m o' hb]
 ·rw [bC e] at hb;rw [aY e];exact K b m o' hb
theorem Kn.ext (K:Kn ow H)(h:H a=none):Ext ow (ow.set a l):=λb m o hb=>by
 have:b≠a:=λe=>by rw [<- e,K b m o hb] at h;injection h
 rw [bC this];exact hb
theorem qg.grow (G:xb ow H az H')(h:qg ow H a l o):qg az H' a l o:=⟨(G _ _ h.2).1.trans h.1,(G _ _ h.2).2⟩
theorem PN.grow (G:xb ow H az H')(h:PN ow H p i):PN az H' p i:=by
 obtain ⟨rg,h1,q⟩:=h;refine q _ λh2 r=>?_;refine r _ λxs h3 h4=>?_;exact ⟨rg,h1.grow G,(.mk ((G _ _ h3).1.trans h2) (.mk xs ((G _ _ h3).2) h4))⟩
theorem oJ:qg (ow.set a l) (H.upd a o) a l o:=⟨aC _ _ _,ak _ _ _⟩
def Nw.ZF (ow:Ow)(H:Hp)(az:Ow)(H':Hp)(Z:Prop):Prop:=∀(kn:Kn az H')(g:xb ow H az H')(e:Ext ow az),Z
def Nw (ow H az H'):=∀Z:Prop,Nw.ZF ow H az H' Z->Z
theorem Nw.mk:Nw.ZF ow H az H' (Nw ow H az H'):=λkn g e _ Z=>Z kn g e
def Nw.kn (Z:Nw ow H az H'):=Z _ λkn g e=>kn
def Nw.gg (Z:Nw ow H az H'):=Z _ λkn g e=>g
def Nw.ee (Z:Nw ow H az H'):=Z _ λkn g e=>e
theorem Nw.trans (x:Nw ow H iR H1)(y:Nw iR H1 az H'):Nw ow H az H':=(.mk y.kn (x.gg.trans y.gg) (x.ee.trans y.ee))
theorem Kn.nw (K:Kn ow H)(h:H a=none)(hk:∀m o',l=.k m o'->o'=o):Nw ow H (ow.set a l) (H.upd a o):=(.mk (K.new h hk) (fi h) (K.ext h))
theorem KJ (K:Kn ow H)(he:Pu (ev (aj (k+2)) n) e m H (.int i))(hQ:∀az H' p,Nw ow H az H'->PN az H' p i->Q (.ref p) H'):(ev (aj (k+2)) (n+1)).E (.new .bw [e]) m H Q:=by
 refine nj rfl (aT (he _ (cA λa ha=>?_)));refine bo rfl rfl rfl (bH (λZ h=>dY rfl h) rfl rfl (Nat.zero_lt_succ 0) rfl λhb=>?_);refine bK (fW (bh rfl) (ak _ _ _) rfl rfl rfl aA (xS (ak _ _ _) (Nat.lt_trans hb (by decide)) λa1 a2 h1 h2=>ar (cC ⟨rfl,?_⟩)));have e1:a1≠a:=λe=>by rw [e,ak] at h1;injection h1
 rw [dy e1.symm] at h2 ⊢;have e2:a2≠a:=λe=>by rw [e,ak] at h2;injection h2
 rw [dy e2.symm,jU,show put .dO (V.int i) []=[(.dO,.int i)] from rfl,OY];rw [aY e1] at h1;rw [aY e2] at h2;have N1:=K.nw h1 (l:=.k false (.list [.int 0])) (o:=.list [.int 0]) (λZ Z e=>by cases e;rfl);have N2:=N1.kn.nw h2 (l:=.ew i) (o:=.list (List.replicate 32 (.int 0))) (λZ Z=>ay rfl);have h3:=(aY e2.symm (.list (List.replicate 32 (.int 0)))).trans ((aY e1.symm (.list [.int 0])).trans ha);have N3:=N2.kn.nw h3 (l:=.proc i) (o:=.inst .bw (prN i a2)) (λZ Z=>ay rfl);refine hQ _ _ a (N1.trans (N2.trans N3)) ⟨a2,oJ,?_⟩;exact (.mk ((bC e2 _).trans (aC _ _ _)) (.mk _ ((aY e2 _).trans (ak _ _ _)) rfl))
theorem Hh (K:Kn ow H)(hQ:∀(az:Ow) H' t pl (pa:Nat->Nat),Nw ow H az H'->qg az H' t .tab (.inst .aK (KI pl))->qg az H' pl .je (.list ((List.range 24).map λi=>.ref (pa i)))->(∀i,i<24->PN az H' (pa i) i)->Q (.ref t) H'):
  (ev (aj (k+3)) (n+2)).E (.new .aK [.int 24]) m H Q:=by
 refine JV rfl (ao cS aA) (λt ht=>?_);refine bo rfl rfl rfl (eW (zf (rS (dY rfl (md (by decide) (by unfold small;decide) ⟨by decide,?_⟩)))));have K0:=K.new ht (l:=.k true (.inst .aK [])) (o:=.inst .aK []) (λZ Z e=>by cases e;rfl);have G0:=fi (ow:=ow) (l:=.k true (.inst .aK [])) (o:=.inst .aK []) ht;have E0:=K.ext (l:=.k true (.inst .aK [])) ht;refine l8 (λl acc H'=>∃(az:Ow)(pa:Nat->Nat),Nw (ow.set t (.k true (.inst .aK []))) (H.upd t (.inst .aK [])) az H'/\acc=(List.range l).map (λi=>.ref (pa i))/\∀i,i<l->PN az H' (pa i) i) ?_ ?_ ⟨_,λZ=>0,(.mk K0 (λZ Z h=>⟨rfl,h⟩) .rfl'),rfl,(λZ h=>absurd h (Nat.not_lt_zero Z))⟩
 ·intro l v acc H' Kt hv mQ hK
  refine nK mQ λaz pa N ha hp=>?_;refine cX (pB hv) λdp Z=>?_;subst dp;rw [Int.zero_add];refine ⟨trivial,b1 ?_⟩;refine Fs (bT (KJ N.kn (i:=l) (bh aG) λoA H2 p N2 hpn=>hK _ _ ⟨oA,λx=>if x=l then p else pa x,N.trans N2,?_,λx hx=>?_⟩))
  ·simp only [List.range_succ,List.map_append,ha]
   refine congr (congrArg _ (List.map_congr_left λx hx=>?_)) ?_
   ·show V.ref (pa x)=V.ref (if x=l then p else pa x)
    rw [if_neg (Nat.ne_of_lt (List.mem_range.mp hx))]
   ·refine (?_:[V.ref p]=[V.ref (if l=l then p else pa l)])
    rw [if_pos rfl]
  ·refine (?_:PN oA H2 (if x=l then p else pa x) x)
   by_cases e:x=l
   ·subst e;rw [if_pos rfl];exact hpn
   ·rw [if_neg e];exact (hp x (by exact Nat.lt_of_le_of_ne (Nat.le_of_lt_succ ‹_›) ‹_›)).grow N2.gg
 ·intro acc H' mc
  refine nK mc λaz pa N ha hp=>?_;refine ⟨trivial,λpl Ro=>dY rfl ?_⟩;rw [show (Src.nums (upTo 0 24)).items.length=24 from rfl] at ha hp;have ct:qg az H' t (.k true (.inst .aK [])) (.inst .aK []):=qg.grow N.gg oJ;have htl:t≠pl:=λe=>by rw [<- e,ct.2] at Ro;injection Ro
  have N2:=N.kn.nw Ro (l:=.je) (o:=.list acc) (λZ Z=>ay rfl);have ct2:=ct.grow N2.gg;refine cW (fs':=[(.fe,.ref pl)]) ct2.2 rfl rfl rfl ?_;refine bH (λZ h=>da h) rfl rfl (by show 1<2;decide) rfl λhb=>eW (s7 (bh rfl) cS (yN.sub _ _ ?_));refine dY rfl (gz rfl hb rfl λhb=>bH (λZ h=>fE h) rfl rfl hb rfl λhb=>bH (λZ h=>fE h) rfl rfl hb rfl λhb=>ar (cC ⟨rfl,?_⟩));have fin:=(N.trans N2);refine hQ ((az.set pl .je).set t .tab) _ t pl pa (.mk ?_ ?_ ?_) ⟨aC _ _ _,ak _ _ _⟩ ⟨(bC htl.symm _).trans (aC _ _ _),(aY htl.symm _).trans ((ak _ _ _).trans (by rw [ha]))⟩ λi hi=>?_
  ·intro b mm o hb
   by_cases e:b=t
   ·subst e;rw [aC] at hb;injection hb
   ·rw [bC e] at hb;rw [aY e];exact N2.kn b mm o hb
  ·intro b o hb
   have e:b≠t:=λe=>by rw [e,ht] at hb;injection hb
   have:=fin.gg b o ((aY e _).trans hb);exact ⟨(bC e _).trans (this.1.trans (bC e _)),(aY e _).trans this.2⟩
  ·intro b mm o hb
   have e:b≠t:=λe=>by rw [e] at hb;rw [K _ _ _ hb] at ht;injection ht
   exact (bC e _).trans (fin.ee b mm o (E0 b mm o hb))
  ·obtain ⟨rg,h1,q⟩:=(hp i hi).grow N2.gg;refine q _ λh2 r=>?_;refine r _ λxs h3 h4=>?_
   have e1:pa i≠t:=lF h1.1 ct2.1 (ay rfl);have e2:rg≠t:=lF h2 ct2.1 (ay rfl);exact ⟨rg,⟨(bC e1 _).trans h1.1,(aY e1 _).trans h1.2⟩,(.mk ((bC e2 _).trans h2) (.mk xs ((aY e2 _).trans h3) h4))⟩
end
def DO (t f:Nat)(dv:V):NV:=[(.aW,.ref t),(.bX,.ref f),(.gU,.none),(.mA,.none),(.eJ,.none),(.d9,dv),(.um,.int 0)]
def B6:W:=⟨1,none,23,λZ=>kP,λZ=>0,[],0,0⟩
def Start.ZF (w:W)(Z:Prop):Prop:=∀(p0:∃f1 f2 ja,w.ps 0=⟨1,.bB,none,.none,0,some [some f1,some f2,some f2,none,none,none],some ⟨ja,[],[],0⟩⟩) (ps:∀x,x≠0->w.ps x=kP) (next:w.next=2) (fst:w.fst=some 0) (last:w.last<24) (hF:fM w) (dG:w.dG=2) (eu:w.eu=1),Z
def Start (w):=∀Z:Prop,Start.ZF w Z->Z
theorem Start.mk:Start.ZF w (Start w):=λp0 ps next fst last hF dG eu _ Z=>Z p0 ps next fst last hF dG eu
def Start.p0 (Z:Start w):=Z _ λp0 ps next fst last hF dG eu=>p0
def Start.ps (Z:Start w):=Z _ λp0 ps next fst last hF dG eu=>ps
def Start.next (Z:Start w):=Z _ λp0 ps next fst last hF dG eu=>next
def Start.fst (Z:Start w):=Z _ λp0 ps next fst last hF dG eu=>fst
def Start.last (Z:Start w):=Z _ λp0 ps next fst last hF dG eu=>last
def Start.hF (Z:Start w):=Z _ λp0 ps next fst last hF dG eu=>hF
def Start.dG (Z:Start w):=Z _ λp0 ps next fst last hF dG eu=>dG
def Start.eu (Z:Start w):=Z _ λp0 ps next fst last hF dG eu=>eu
section
theorem zE (h:alloc H (.dict []) Q):(ev C (n+1)).E .m9 m H Q:=h
theorem TK (hm:meths cl x=some f)(hl:vs.length=3)(Cu:f.params=cZ)(hp:pad f.params vs=ms)(h:eK (ev (aj k) 40) f.body ms H (fin Q)):(aj (k+1)).aB cl x vs H Q:=by
 subst hp;refine (?_:match meths cl x with|some g=>nc (aj k) g vs H Q|none=>False);rw [hm];exact ⟨.inr ⟨hl,Cu⟩,h⟩
theorem KL (K:Kn ow H)(hQ:∀az H' p d,Nw ow H az H'->qg az H' p .b7 (.inst .bj [(.et,.int 4),(.eT,.int 0),(.dh,.ref d)])->qg az H' d .bM (.dict [])->Q (.ref p) H'):(ev (aj (k+1)) (n+2)).E (.new .bj [.int 4]) m H Q:=by
 refine JV rfl (ao cS aA) (λa ha=>?_);refine bo rfl rfl rfl (bH (λZ h=>dY rfl h) rfl rfl (Nat.zero_lt_succ 0) rfl λhb=>bH (λZ h=>da h) rfl rfl hb rfl λhb=>?_);refine eW (zE λd hd=>?_);have e1:d≠a:=λe=>by rw [e,ak] at hd;injection hd
 refine dY rfl ?_;rw [dy e1.symm];rw [aY e1] at hd;refine gz rfl hb rfl λhb=>ar (cC ⟨rfl,?_⟩);have N1:=K.nw hd (l:=.bM) (o:=.dict []) (λZ Z=>ay rfl);have h3:=(aY e1.symm (.dict [])).trans ha;have N2:=N1.kn.nw h3 (l:=.b7) (o:=.inst .bj [(.et,.int 4),(.eT,.int 0),(.dh,.ref d)]) (λZ Z=>ay rfl);exact hQ _ _ a d (N1.trans N2) oJ (qg.grow N2.gg oJ)
theorem KN (K:Kn ow H)(hQ:∀az H' f o p d dv,Nw ow H az H'->qg az H' f .cg (.inst .aP (lZ ⟨0,0,0,0,0,p,0,λZ=>0⟩ dv o))->qg az H' o .Bw (.list [])->qg az H' p .b7 (.inst .bj [(.et,.int 4),(.eT,.int 0),(.dh,.ref d)])->qg az H' d .bM (.dict [])->Q (.ref f) H'):
  (ev (aj (k+1)) (n+3)).E (.new .aP [.int 30,.new .bj [.int 4],.none,.none,.m9,.int 16]) m H Q:=by
 refine nj rfl (aT (da (aT (KL K λiR H1 p d N1 c1 c2=>aT (fE (aT (fE (aT ?_))))))));refine zE λdv hdv=>?_;have N2:=N1.kn.nw hdv (l:=.other) (o:=.dict []) (λZ Z=>ay rfl);refine ao cS aA _ (λa ha=>?_);refine bo rfl rfl rfl (cG (JT (bD (bh rfl) cS (BM (t:=false) rfl (aR (bD (bh rfl) cS (BM (t:=false) rfl (aR (ar (ax ?_))))))))));refine bH (λZ h=>dY rfl h) rfl rfl (Nat.zero_lt_succ 0) rfl λhb=>bH (λZ h=>dY rfl h) rfl rfl hb rfl λhb=>bH (λZ h=>dY rfl h) rfl rfl hb rfl λhb=>bH (λZ h=>dY rfl h) rfl rfl hb rfl λhb=>bH (λZ h=>dY rfl h) rfl rfl hb rfl λhb=>bH (λZ h=>dY rfl h) rfl rfl hb rfl λhb=>?_;refine eW (gG aA (λo ho=>dY rfl ?_));have e1:o≠a:=λe=>by rw [e,ak] at ho;injection ho
 rw [dy e1.symm];rw [aY e1] at ho;refine gz rfl hb rfl λhb=>ar (cC ⟨rfl,?_⟩);have N3:=N2.kn.nw ho (l:=.Bw) (o:=.list []) (λZ Z=>ay rfl);have h3:=(aY e1.symm (.list [])).trans ha;have N4:=N3.kn.nw h3 (l:=.cg) (o:=.inst .aP (lZ ⟨0,0,0,0,0,p,0,λZ=>0⟩ (.ref dv) o)) (λZ Z=>ay rfl);exact hQ _ _ a o p d (.ref dv) (((N1.trans N2).trans N3).trans N4) oJ (qg.grow N4.gg oJ) (((c1.grow N2.gg).grow N3.gg).grow N4.gg) (((c2.grow N2.gg).grow N3.gg).grow N4.gg)
theorem Hi (K:Kn ow H)(ht:look .aW m=some (.ref t))(hQ:∀az H' c pp f o p d dv QP,Nw ow H az H'->qg az H' c .aj (.inst .au [(.cL,.ref pp)])->qg az H' pp .parts (.inst .jf (DO t f QP))->
   qg az H' f .cg (.inst .aP (lZ ⟨0,0,0,0,0,p,0,λZ=>0⟩ dv o))->qg az H' o .Bw (.list [])->qg az H' p .b7 (.inst .bj [(.et,.int 4),(.eT,.int 0),(.dh,.ref d)])->qg az H' d .bM (.dict [])->Q (.ref c) H'):
  (ev (aj (k+1)) (n+5)).E (.new .au [.new .jf [.var .aW,.new .aP [.int 30,.new .bj [.int 4],.none,.none,.m9,.int 16]]]) m H Q:=by
 refine nj rfl (aT (nj rfl (aT (dY ht (aT (KN K λiR H1 f o p d dv N1 c1 c2 c3 c4=>cA λa ha=>?_))))));refine TK rfl rfl rfl rfl ?_;refine bH (λZ h=>dY rfl h) rfl rfl (Nat.zero_lt_succ 0) rfl λhb=>bH (λZ h=>dY rfl h) rfl rfl hb rfl λhb=>bH (λZ h=>dY rfl h) rfl rfl hb rfl λhb=>bH (λZ h=>dY rfl h) rfl rfl hb rfl λhb=>bH (λZ h=>dY rfl h) rfl rfl hb rfl λhb=>?_;refine eW (zr (bD (bh rfl) cR (jW .nn (bT (zE λQP hd2=>?_)))));have e1:QP≠a:=λe=>by rw [e,ak] at hd2;injection hd2
 refine dY rfl ?_;rw [dy e1.symm];rw [aY e1] at hd2;refine gz rfl hb rfl λhb=>bH (λZ h=>da h) rfl rfl hb rfl λhb=>ar (cC ⟨rfl,cA λc hc=>?_⟩);refine bo rfl rfl rfl (bH (λZ h=>dY rfl h) rfl rfl (Nat.zero_lt_succ 0) rfl λhb=>ar (cC ⟨rfl,?_⟩));have N2:=N1.kn.nw hd2 (l:=.other) (o:=.dict []) (λZ Z=>ay rfl);have h3:=(aY e1.symm (.dict [])).trans ha;have N3:=N2.kn.nw h3 (l:=.parts) (o:=.inst .jf (DO t f (.ref QP))) (λZ Z=>ay rfl);have N4:=N3.kn.nw hc (l:=.aj) (o:=.inst .au [(.cL,.ref a)]) (λZ Z=>ay rfl);have G:=(N2.trans (N3.trans N4)).gg;exact hQ _ _ c a f o p d dv (.ref QP) (N1.trans (N2.trans (N3.trans N4))) oJ (qg.grow N4.gg oJ) (c1.grow G) (c2.grow G) (c3.grow G) (c4.grow G)
end
section
variable {w w0:W}
theorem Hj {t pl c pp f o p d:Nat}(K:Kn ow H)(c1:qg ow H t .tab (.inst .aK (KI pl)))(c2:qg ow H pl .je (.list ((List.range 24).map λi=>.ref (pa i)))) (hp:∀i,i<24->PN ow H (pa i) i)
  (c3:qg ow H c .aj (.inst .au [(.cL,.ref pp)])) (c4:qg ow H pp .parts (.inst .jf (DO t f QP))) (c5:qg ow H f .cg (.inst .aP (lZ ⟨0,0,0,0,0,p,0,λZ=>0⟩ dv o))) (c6:qg ow H o .Bw (.list []))
  (c7:qg ow H p .b7 (.inst .bj [(.et,.int 4),(.eT,.int 0),(.dh,.ref d)])) (c8:qg ow H d .bM (.dict [])):Rel ⟨t,pl,c,pp,f,p,d,pa⟩ ow B6 H:=by
 refine (.mk K (.mk c1.1 (.mk none (.mk c1.2 (by decide) (λZ=>ip rfl) (λZ=>ip rfl)))) c2 (λi hi=>?_) c3 ⟨c4.1,QP,c4.2⟩ (.mk c5.1 (.mk dv o [] c5.2 c6.1 c6.2 (Nat.le_refl _) (λZ h=>absurd h List.not_mem_nil))) c7 (.mk c8.1 (.mk [] c8.2 (Nat.le_refl _) (λZ h=>absurd h List.not_mem_nil))) (λZ h=>absurd h List.not_mem_nil));refine aQ (hp i hi) λrg h1 h2=>?_;exact (.mk h1.1 (.mk .none (.str .mv) 0 rg .none .none (.mk h1.2 (.mk (λZ=>ip rfl) nofun) rfl h2 rfl rfl)))
theorem aay:fM (W.aL ({B6 with next:=B6.next+1,fst:=some (B6.fst.getD 0)}:W) 0 (mS (mR B6.next) (some (List.replicate 6 none)))):=by
 refine (.mk (λi hi sl hs n f hn=>?_) (λZ h=>absurd h List.not_mem_nil));by_cases e:i=0
 ·subst e
  replace hs:=(ah)▸hs;cases hs;have h6:=jD hn;rw [List.getElem?_eq_getElem h6,List.getElem_replicate] at hn;cases hn
 ·rw [aD e] at hs;injection hs
theorem Hk (R:Rel g ow (w0.aL i P) H)(hi:i<24)(hv:look x m=some (.ref (g.pa i)))(he:Pu (ev (aj (k+1)) (n+1)) e m H (.int 6))
  (hQ:∀az H',Rel g az (w0.aL i (mS P (some (List.replicate 6 none)))) H'->Ext ow az->eK (ev (aj (k+1)) (n+3)) ss m H' F):eK (ev (aj (k+1)) (n+3)) (.ag (.var x) .bX (.new .aH [e])::ss) m H F:=by
 refine eW (BQ R he λiR H1 a s R1 G1 E1 ha hs has oa os=>dY hv ?_);have R2:=R1.dR oa (l:=.desc i) (λZ Z=>ay rfl);have R3:=R2.dR (a:=s) ((bC has.symm _).trans os) (l:=.slots i) (λZ Z=>ay rfl);refine lI (Rel.at R3 hi) λMe G4 Mf Kf Mg Mh B=>?_;refine gO R3 hi B rfl (P':=mS P (some (List.replicate 6 none))) rfl (.mk B.ok.aJ B.ok.cF) B.cF B.ew (.mk a s rfl (.mk ((bC has _).trans (aC _ _ _)) (R1.aM _ _ _ oa) (aC _ _ _) (R1.aM _ _ _ os) rfl)) B.dq λH4 R4=>hQ _ _ R4 λb mm o hb=>?_;have n1:b≠a:=λe=>by replace hb:=(e)▸hb;rw [R.aM _ _ _ hb] at ha;injection ha
 have n2:b≠s:=λe=>by rw [e] at hb;rw [R.aM _ _ _ hb] at hs;injection hs
 exact (bC n2 _).trans ((bC n1 _).trans (E1 _ _ _ hb))
theorem OZ (R:Rel g ow (w0.aL i P) H)(hi:i<24)(hv:look .aV m=some (.ref (g.pa i)))(hc:look .bW m=some (.ref g.aj))
  (hQ:∀ja az H',Rel g az (w0.aL i (gm P ⟨ja,[],[],0⟩)) H'->Ext ow az->eK (ev (aj (k+1)) (n+4)) ss m H' F):eK (ev (aj (k+1)) (n+4)) (.ag (.var .aV) .gL (.new .cV [.var .bW,.var .aV,.lst []])::ss) m H F:=by
 refine eW (nj rfl (aT (dY hc (aT (dY hv (aT (gG aA (λb hb=>cA λja Ml=>?_))))))));have R2:=R.dM hb (m:=false) (o:=.list []);have E2:=aq R hb (.k false (.list []));refine bo rfl rfl rfl (bH (λZ h=>dY rfl h) rfl rfl (Nat.zero_lt_succ 0) rfl λxc=>bH (λZ h=>dY rfl h) rfl rfl xc rfl λxc=>?_);have Tw:b≠ja:=λe=>by rw [<- e,ak] at Ml;injection Ml
 refine eW (l9 (bh rfl) (iI ((aY Tw _).trans (ak _ _ _)) ⟨by decide,λa1 h1=>dY rfl ?_⟩));have e1:a1≠ja:=λe=>by rw [e,ak] at h1;injection h1
 rw [dy e1.symm];rw [aY e1] at h1;refine gz rfl xc rfl λxc=>eW (gG aA (λa2 h2=>dY rfl ?_));have e2:a2≠ja:=λe=>by rw [e,ak] at h2;injection h2
 rw [dy e2.symm];rw [aY e2] at h2;refine gz rfl xc rfl λxc=>bH (λZ h=>Ta h) rfl rfl xc rfl λxc=>bH (λZ h=>da h) rfl rfl xc rfl λxc=>ar (cC ⟨rfl,dY hv ?_⟩);have R3:=R2.new h1 (l:=.aI i) (o:=.list []) (λZ Z=>ay rfl);have E3:=aq R2 h1 (.aI i);have R4:=R3.new h2 (l:=.bl i) (o:=.list []) (λZ Z=>ay rfl);have E4:=aq R3 h2 (.bl i);have h3:=(aY e2.symm (.list [])).trans ((aY e1.symm (.list [])).trans Ml);have R5:=R4.new h3 (l:=.dq i) (o:=.inst .cV (zc g i 0 a1 a2 (.bool false))) (λZ Z=>ay rfl);have E5:=aq R4 h3 (.dq i);have W2:a1≠a2:=λe=>by rw [<- e,ak] at h2;injection h2
 refine lI (Rel.at R5 hi) λMe G4 Mf Kf Mg Mh B=>?_;refine gO R5 hi B rfl (P':=gm P ⟨ja,[],[],0⟩) rfl (.mk B.ok.aJ B.ok.cF) B.cF B.ew B.fl (.mk rfl a1 a2 (.mk (aC _ _ _) (.mk _ (ak _ _ _)) (.mk ?_ (.mk [] ?_ .nil (Nat.zero_lt_succ _))) (.mk ?_ (.mk [] ?_ .nil (Nat.zero_lt_succ _))))) λH6 R6=>hQ ja _ _ R6 (((E2.trans E3).trans E4).trans E5)
 ·exact (bC e1 _).trans ((bC W2 _).trans (aC _ _ _))
 ·exact (aY e1 _).trans ((aY W2 _).trans (ak _ _ _))
 ·exact (bC e2 _).trans (aC _ _ _)
 ·exact (aY e2 _).trans (ak _ _ _)
theorem DP (K:Kn ow H)(hQ:∀g w az H' v,Start w->Rel g az w H'->Ext ow az->bQ az v (.tuple [.ref g.tab,.ref g.aj,.ref (g.pa 0)])->Q v H'):(aj (k+7)).fn .gK [] H Q:=by
 refine sZ rfl rfl rfl (dT (Hh K λiR H1 t pl pa N1 c1 c2 hp=>?_));refine dT (Hi N1.kn rfl λoA H2 c pp f o p d dv QP N2 c3 c4 c5 c6 c7 c8=>?_);have R:=Hj N2.kn (c1.grow N2.gg) (c2.grow N2.gg) (λi hi=>(hp i hi).grow N2.gg) c3 c4 c5 c6 c7 c8;have E2:=N1.ee.trans N2.ee;generalize hg:(⟨t,pl,c,pp,f,p,d,pa⟩:Ad)=g at R;have hgt:t=g.tab:=by subst hg;rfl
 have YR:c=g.aj:=by subst hg;rfl
 refine dT (qI R (bh (by refine (hgt)▸?_;rfl)) (λZ Z Z Z=>rfl) rfl (ao ox aA _ (J4 R ⟨0,by decide,rfl⟩ λj CD H3 hj Tr rR R3 E3=>?_)));have iq:j=0:=by
  rcases Nat.eq_zero_or_pos j with h|h
  ·exact h
  ·exact absurd rfl (rR 0 h)
 subst iq;refine Hk R3 (by decide) rfl (λQ h=>da h) λHT H4 R4 E4=>?_;have gQ:((W.aL ({B6 with next:=B6.next+1,fst:=some (B6.fst.getD 0)}:W) 0 (mS (mR B6.next) (some (List.replicate 6 none)))).ps 0).fl=some (List.replicate 6 none):=by rw [ah];rfl
 refine bK (jK R4 (bh (by refine (YR)▸?_;rfl)) rfl rfl (ao (bh rfl) aA _ (BS R4 (by decide) (by decide) (by decide) gQ (by decide) (n1:=0) (n2:=1) rfl (λZ h=>absurd h (Nat.not_lt_zero Z)) (by decide) rfl (λb hb dw=>absurd (by grind only) dw) λWX H5 f1 f2 v q1 q2 q3 R5 E5 hv=>?_)));have Xe:((iS (W.aL ({B6 with next:=B6.next+1,fst:=some (B6.fst.getD 0)}:W) 0 (mS (mR B6.next) (some (List.replicate 6 none)))) 0 f1 f2 0 1 (List.replicate 6 none)).ps 0).fl=some [some f1,some f2,none,none,none,none]:=by
  unfold iS;rw [ah];rfl
 refine bK (jK R5 (bh (by refine (YR)▸?_;rfl)) rfl rfl (ao (bh rfl) (ao cS aA) _ (Ku (n:=1) (n':=2) (f:=f2) R5 (by decide) Xe rfl rfl (λb hb=>?_) (.head _) ?_ λH6 R6=>?_)))
 ·match b,hb with
  |0,_=>exact ⟨_,rfl⟩
  |1,_=>exact ⟨_,rfl⟩
 ·refine (?_:(1:Int)<=if f2=f2 then 1 else _)
  rw [if_pos rfl];decide
 have F5:=aay.pipe (i:=0) (n1:=0) (n2:=1) (by decide) gQ q1 q2 q3 rfl rfl (by decide);have F6:=F5.dup (i:=0) (n:=2) (by decide) Xe rfl (f:=f2) (.head _);generalize hW:Kj (iS (W.aL ({B6 with next:=B6.next+1,fst:=some (B6.fst.getD 0)}:W) 0 (mS (mR B6.next) (some (List.replicate 6 none)))) 0 f1 f2 0 1 (List.replicate 6 none)) 0 2 f2 [some f1,some f2,none,none,none,none]=W6 at R6 F6;have p0:W6.ps 0=⟨1,.yx,none,.none,0,some [some f1,some f2,some f2,none,none,none],none⟩:=by subst hW;rfl
 have px:∀x,x≠0->W6.ps x=kP:=λx hx=>by subst hW;exact (aD hx).trans ((aD hx).trans (aD hx))
 have pn:W6.next=2/\W6.fst=some 0/\W6.last=23/\W6.dG=2/\W6.eu=1:=by subst hW;exact ⟨rfl,rfl,rfl,rfl,rfl⟩
 have R6':Rel g WX (W6.aL 0 (W6.ps 0)) H6:=by rw [sW rfl];exact R6
 refine OZ R6' (by decide) rfl (by refine (YR)▸?_;rfl) λja ow7 H7 R7 E7=>?_;refine fq (R7.mU (i:=0) (j:=⟨ja,[],[],0⟩) (by decide) (by rw [ah];rfl)) λcv nm tn rg fv kk t A J=>?_;refine J.wy λsh hc=>?_;refine cH ug (bS rfl A.h rfl) (cW (fs':=zc g 0 0 kk t (.bool true)) hc rfl rfl rfl ?_);have R8:=R7.JM (by decide) A J (sh:=.bool true) (mk:=0);rw [ah,dn] at R8;refine bK (qI R8 (bh (by refine (hgt)▸?_;rfl)) (λZ Z Z Z=>rfl) rfl (ao (bh rfl) aA _ (oy R8 (by decide) λH9 R9 Z=>?_)));rw [ah,dn] at R9;refine fU (jB (ao (bh (by rw [hgt];rfl)) (ao (bh (by rw [YR];rfl)) (ao (bh rfl) aA))) (λa ha=>bA ?_));have HU:=R9.dM ha (m:=false) (o:=.tuple [.ref g.tab,.ref g.aj,.ref (g.pa 0)]);refine hQ g _ _ _ _ (.mk ⟨f1,f2,ja,?_⟩ (λx hx=>(aD hx).trans (px x hx)) pn.1 pn.2.1 ?_ (F6.congr (λx=>?_) rfl rfl) pn.2.2.2.1 pn.2.2.2.2) HU (((((E2.trans E3).trans E4).trans E5).trans E7).trans (aq R9 ha _)) (.mk a rfl (aC _ _ _))
 ·rw [ah,p0];rfl
 ·refine (?_:W6.last<24)
  rw [pn.2.2.1];decide
 ·by_cases e:x=0
  ·subst e;rw [ah];rfl
  ·rw [aD e]
end
def found (w:W)(jb:Jb):List (Int×Int):=jb.bl++(fR w 0).map λj=>((w.ps j).aS,(w.ps j).status)
def Done.ZF (aN:List Int)(w:W)(Z:Prop):Prop:=∀(hj:∃jb,(w.ps 0).dq=some jb/\b8 ((found w jb).map (·.2))=b8 aN/\((found w jb).map (·.1)).Nodup/\(found w jb).length<64) (hd:aN.length<64) (h0:(w.ps 0).st≠.ae/\(w.ps 0).aJ=none) (hz:∀j,j<24->j≠0->(w.ps j).st≠.ae->eB w 0 j=true/\(w.ps j).st=.bc),Z
def Done (aN w):=∀Z:Prop,Done.ZF aN w Z->Z
theorem Done.mk:Done.ZF aN w (Done aN w):=λhj hd h0 hz _ Z=>Z hj hd h0 hz
def Done.hj (Z:Done aN w):=Z _ λhj hd h0 hz=>hj
def Done.hd (Z:Done aN w):=Z _ λhj hd h0 hz=>hd
def Done.h0 (Z:Done aN w):=Z _ λhj hd h0 hz=>h0
def Done.hz (Z:Done aN w):=Z _ λhj hd h0 hz=>hz
def cT.ZF (Quiet kE:Nat->List Int->W->Prop)(Fin:Nat->List Int->W->Prop)(Z:Prop):Prop:=∀(start:∀w,Start w->Quiet 0 [] w) (line:∀t aN w z,t<4->Quiet t aN w->0<=z->z<3->∃jb,(w.ps 0).dq=some jb/\jb.aI=[]/\∃I:Nat->W->Prop,I 0 (oI w jb z)/\(∀k w,k<150->I k w->∃jb,(w.ps 0).dq=some jb/\(jb.aI=[]\/(jb.aI≠[]/\(∃i,i<24/\(w.ps i).st=.bB)/\∀i,pQ w i->e8 w i/\∀w',oG w i w'->I (k+1) w')))/\(∀w,¬I 150 w)/\∀k w' B5,k<150->I k w'->(w'.ps 0).dq=some B5->B5.aI=[]->(w.next,fO z)∈B5.bl/\kE t (aN++[fO z]++kQ z) w') (cN:∀t aN w,kE t aN w->∀i,pQ w i->e8 w i/\∀w',oG w i w'->kE t aN w') (fork:∀t aN w,t<4->kE t aN w->∃sl,(w.ps 0).st≠.ae/\x8 w/\(w.ps 0).fl=some sl/\fM w/\(∀c,c<24->(w.ps c).st≠.ae->(w.ps c).aS<w.next)/\oB w/\w.fst=some 0/\∀c,c<24->(w.ps c).st=.ae->fM (d6 w 0 c sl)/\∀h sl',fM (gR (d6 w 0 c sl) c h sl')->Quiet (t+1) (aN++[7]) (fh (gR (d6 w 0 c sl) c h sl') c 7)) (next:∀t aN w,t<4->kE t aN w->Quiet (t+1) aN w) (tf:∀t aN w,t<=4->Quiet t aN w->Fin 0 aN w) (fin:∀k aN w,k<200->Fin k aN w->∀i,pQ w i->e8 w i/\∀w',oG w i w'->Fin (k+1) aN w') (rY:∀k aN w,k<=200->Fin k aN w->((∀j,j<24->(w.ps j).st≠.bB)\/k=200)->Done aN w),Z
def cT (Quiet kE Fin):=∀Z:Prop,cT.ZF Quiet kE Fin Z->Z
theorem cT.mk {Fin}:cT.ZF Quiet kE Fin (cT Quiet kE Fin):=λstart line cN fork next tf fin rY _ Z=>Z start line cN fork next tf fin rY
def cT.start {Fin}(Z:cT Quiet kE Fin):=Z _ λstart line cN fork next tf fin rY=>start
def cT.line {Fin}(Z:cT Quiet kE Fin):=Z _ λstart line cN fork next tf fin rY=>line
def cT.cN {Fin}(Z:cT Quiet kE Fin):=Z _ λstart line cN fork next tf fin rY=>cN
def cT.fork {Fin}(Z:cT Quiet kE Fin):=Z _ λstart line cN fork next tf fin rY=>fork
def cT.next {Fin}(Z:cT Quiet kE Fin):=Z _ λstart line cN fork next tf fin rY=>next
def cT.tf {Fin}(Z:cT Quiet kE Fin):=Z _ λstart line cN fork next tf fin rY=>tf
def cT.fin {Fin}(Z:cT Quiet kE Fin):=Z _ λstart line cN fork next tf fin rY=>fin
def cT.rY {Fin}(Z:cT Quiet kE Fin):=Z _ λstart line cN fork next tf fin rY=>rY
section
theorem TL (h:(ev C n).E e1 m H λv H=>(ev C n).E e2 m H λw H=>AH H Q v w):(ev C (n+1)).E (.AB e1 e2) m H Q:=h
theorem O0 (hp:H p=some (.ro xs))(hl:xs.length<1000)(h0:0<=z)(h1:z<1000)(h:alloc H (.list ((xs.take z.toNat).map .int)) Q):AH H Q (.ref p) (.int z):=.mk _ _ _ hp hl h0 h1 h
theorem Xf (h:(ev C n).E e1 m H λv H=>(ev C n).E e2 m H λw H=>Ga H Q v w):(ev C (n+1)).E (.min e1 e2) m H Q:=h
theorem KP {q:Int->Prop}(hp:H p=some (.ro xs))(hl:xs.length<1000)(h:q xs.length):F9 H (.ref p) q:=.ro _ _ hp hl h
theorem O3 (h:(ev C n).E e1 m H λv H=>(ev C n).E e2 m H λw H=>eK (ev C (n+1)) ss (put x v (put y w m)) H F):eK (ev C (n+1)) (.pW x y e1 e2::ss) m H F:=h
theorem Xg (h:F .brk m H):eK (ev C (n+1)) (.brk::ss) m H F:=h
theorem k_brk (h:F .brk m H):w7 r ss F .brk m H:=h
theorem O4 (h:wW (ev C n) (.over e) m H λs H=>s.items.length<1000/\iA (ev C n) el (λZ v H Q=>uR x y v m H Q) s cn 0 s.items [] H λvs H=>alloc H (.list vs) Q):(ev C (n+1)).E (.kh el x y (.over e) cn) m H Q:=h
theorem vU (h:(ev C n).E e m H λv H=>jI H v λxs=>Es Q xs H):(ev C (n+1)).E (.sorted e) m H Q:=h
theorem zF {l:List Int}(hl:l.length<64)(h:alloc H (.list ((b8 l).map .int)) Q):Es Q (l.map .int) H:=.mk _ (by rw [List.length_map];exact hl) rfl h
theorem Ft {q:Bool->Prop}{l l':List Int}(h:H a=some (.list (l.map .int)))(h':H b=some (.list (l'.map .int)))(e:l=l')(hq:q false):iz H .ne (.ref a) (.ref b) q:=Te (.il _ _ l l' h h') ((decide_eq_true e).symm▸hq)
theorem TM {l:List (Int×Int)}(R:∀a m o,ow a=.k m o->H a=some o) (h:bZ (λv (x:Int×Int)=>bQ ow v (.tuple [.int x.1,.int x.2])) vs l):bZ (Dm H) vs (l.map λx=>DM.t [.int x.1,.int x.2]):=by
 induction h with
 |nil=>exact .nil
 |cons h1 Z ih=>exact .cons (h1 _ λa e ha=>e▸JX (R _ _ _ ha) rfl) ih
theorem KQ (R:Rel g ow w H)(hi:i<24)(hs:(w.ps i).st=.bc)(hQ:∀az H',Rel g az w H'->Ext ow az->Q (.bool false) H'):(aj (k+1)).aB .bw .ke [.ref (g.pa i)] H Q:=by
 refine R.pw hi λcv nm tn rg fv jv A=>?_;refine bo rfl rfl rfl (fU (JO (gj rfl A.h rfl (jB (ao (ig rfl) (ao (ig rfl) aA)) (λa ha=>?_)))));rw [show (V.str (w.ps i).st)=.str .bc by rw [hs]];exact vK (.inr (ak _ _ _)) (.str _) (Ka (Ka .nil)) (.tail _ (.head _)) (bA (hQ _ _ (R.dM ha (m:=false)) (aq R ha _)))
def Vs.ZF (g:Ad)(m:Loc)(s b d:Nat)(Z:Prop):Prop:=∀(vs:look .jn m=some (.ref s))(vb:look .jH m=some (.ref b))(vd:look .kc m=some (.ref d))(t:look .aW m=some (.ref g.tab))(c:look .bW m=some (.ref g.aj))(f:look .aV m=some (.ref (g.pa 0))),Z
def Vs (g m s b d):=∀Z:Prop,Vs.ZF g m s b d Z->Z
theorem Vs.mk:Vs.ZF g m s b d (Vs g m s b d):=λvs vb vd t c f _ Z=>Z vs vb vd t c f
def Vs.vs (Z:Vs g m s b d):=Z _ λvs vb vd t c f=>vs
def Vs.vb (Z:Vs g m s b d):=Z _ λvs vb vd t c f=>vb
def Vs.vd (Z:Vs g m s b d):=Z _ λvs vb vd t c f=>vd
def Vs.t (Z:Vs g m s b d):=Z _ λvs vb vd t c f=>t
def Vs.c (Z:Vs g m s b d):=Z _ λvs vb vd t c f=>c
def Vs.f (Z:Vs g m s b d):=Z _ λvs vb vd t c f=>f
def okv (x:Nm):Bool:=!(x==.jn)&&!(x==.jH)&&!(x==.kc)&&!(x==.aW)&&!(x==.bW)&&!(x==.aV)
theorem Vs.put (h:Vs g m s b d)(hx:okv x=true):Vs g (Internal.put x v m) s b d:=by
 unfold okv at hx;simp only [Bool.and_eq_true,Bool.not_eq_true',beq_eq_false_iff_ne,ne_eq] at hx;refine cX hx λdp h6=>?_;refine cX dp λdp h5=>?_;obtain ⟨⟨⟨h1,h2⟩,h3⟩,h4⟩:=dp;exact (.mk (lk (Ne.symm h1) h.vs) (lk (Ne.symm h2) h.vb) (lk (Ne.symm h3) h.vd) (lk (Ne.symm h4) h.t) (lk (Ne.symm h5) h.c) (lk (Ne.symm h6) h.f))
theorem Vs.putD (h:Vs g m s b d):Vs g (Internal.put .kc (.ref d') m) s b d':=
 (.mk (lk (by decide) h.vs) (lk (by decide) h.vb) aG (lk (by decide) h.t) (lk (by decide) h.c) (lk (by decide) h.f))
def Env.ZF (g:Ad)(ow:Ow)(m:Loc)(s b d pl:Nat)(ns sf:List Int)(aN:List Int)(Z:Prop):Prop:=∀(vs:Vs g m s b d)(ro:ow s=.k false (.ro ns))(box:HV ow b pl sf)(du:ow d=.k true (.list (aN.map .int)))(sb:s≠b)(db:d≠b),Z
def Env (g ow m s b d pl ns sf aN):=∀Z:Prop,Env.ZF g ow m s b d pl ns sf aN Z->Z
theorem Env.mk:Env.ZF g ow m s b d pl ns sf aN (Env g ow m s b d pl ns sf aN):=λvs ro box du sb db _ Z=>Z vs ro box du sb db
def Env.vs (Z:Env g ow m s b d pl ns sf aN):=Z _ λvs ro box du sb db=>vs
def Env.ro (Z:Env g ow m s b d pl ns sf aN):=Z _ λvs ro box du sb db=>ro
def Env.box (Z:Env g ow m s b d pl ns sf aN):=Z _ λvs ro box du sb db=>box
def Env.du (Z:Env g ow m s b d pl ns sf aN):=Z _ λvs ro box du sb db=>du
def Env.sb (Z:Env g ow m s b d pl ns sf aN):=Z _ λvs ro box du sb db=>sb
def Env.db (Z:Env g ow m s b d pl ns sf aN):=Z _ λvs ro box du sb db=>db
theorem Env.ext (h:Env g ow m s b d pl ns sf aN)(E:Ext ow az):Env g az m s b d pl ns sf aN:=by
 refine h _ λv h1 q64 h6 h7 h8=>?_;refine q64 _ λq65 h5=>?_;obtain ⟨l,h2,h3,h4⟩:=q65;exact (.mk v (E _ _ _ h1) (.mk ⟨l,E _ _ _ h2,E _ _ _ h3,h4⟩ h5) (E _ _ _ h6) h7 h8)
theorem Env.put (h:Env g ow m s b d pl ns sf aN)(hx:okv x=true):Env g ow (Internal.put x v m) s b d pl ns sf aN:=(.mk (h.vs.put hx) h.ro h.box h.du h.sb h.db)
theorem vV (R:Rel g ow w H)(h:Env g ow m s b d pl ns sf aN)(hp:pl<1000)(hz:0<z)(hQ:∀az H' r,0<=r->r<z->Rel g az w H'->Env g az m s b d (pl+1) ns sf aN->Q (.int r) H'):
  (ev (aj (k+1)) (n+2)).E (.dQ .eR [.var .jH,.int z]) m H Q:=
 jw rfl (ao (bh h.vs.vb) (ao cS aA)) (KG R h.box hp hz λaz H' r h0 h1 R' E B=>hQ _ _ _ h0 h1 R' (.mk h.vs (E _ _ _ h.ro h.sb) B (E _ _ _ h.du h.db) h.sb h.db))
end
def O5:List S:=[(.asg .iQ (.dQ .eR [(.var .jH),(.int 3)])),(.asg .cY (.dQ .iT [(.var .aW),(.var .aV),(.var .iQ),(.int 150)])),(.unpack [.d3,.bx,.eG] (.dQ .iU [(.var .iQ)])),(.ez (.yD (.cmp .si (.var .cY) .none) (.cmp .pV (.tup [(.var .cY),(.var .bx)]) (.attr (.attr (.var .aV) .gL) .gd))) [.dead] []),(.asg .kc (.bin .add (.bin .add (.var .kc) (.lst [(.var .bx)])) (.var .eG))),(.iy .CT (.range (.bin .mul (.dQ .eR [(.var .jH),(.int 5)]) (.int 2))) [(.expr (.dQ .eS [(.var .aW),(.var .aV)]))]),(.ez (.kM (.cmp .gt (.len (.var .jn)) (.int 0)) (.cmp .eq (.dQ .eR [(.var .jH),(.int 3)]) (.int 0))) [(.asg .aZ (.aB (.var .bW) .ab [(.aB (.var .bW) .lr [(.var .aV)])])),(.expr (.aB (.var .bW) .iw [(.var .aZ),(.int 7)])),(.expr (.aB (.var .kc) .eL [(.int 7)]))] [])]
section
variable {Quiet kE Fin:Nat->List Int->W->Prop}
theorem KR {q:Bool->Prop}{l:List (Int×Int)}{x:Int×Int}(hb:H b=some (.list vs))(K:∀a m o,ow a=.k m o->H a=some o) (h:bZ (λv (x:Int×Int)=>bQ ow v (.tuple [.int x.1,.int x.2])) vs l) (ha:H a=some (.tuple [.int x.1,.int x.2])) (hx:x∈l) (hq:q false):iz H .pV (.ref a) (.ref b) q:=
 vK (.inl hb) (JX ha rfl) (TM K h) (List.mem_map.mpr ⟨x,hx,rfl⟩) hq
theorem Hl {q:Src->Hp->Prop}(h:r.E e m H (uQ q)):wW r (.range e) m H q:=h
theorem KS:(kQ z).length<=2:=by
 unfold kQ;split
 ·decide
 ·split<;>decide
theorem KU (L:cT Quiet kE Fin)(R:Rel g ow w H)(hQt:Quiet t aN w)(ht:t<4)(V0:Env g ow m s b d pl ns sf aN)(hp:pl<900)(hlen:ns.length<900)(hd:aN.length<900)
  (hK:∀az w' H' m' d' TN oK,Rel g az w' H'->Quiet (t+1) oK w'->Env g az m' s b d' TN ns sf oK->TN<=pl+3->oK.length<=aN.length+4->F .next m' H'):eK (ev (aj 12) 39) O5 m H F:=by
 refine dT (vV R V0 (Nat.lt_trans hp (by decide)) (by decide) λiR H1 z h0 h3 R1 V1=>?_);obtain ⟨jb,hj,hs,I,hI,KH,TJ,aaB⟩:=L.line t aN w z ht hQt h0 h3;have V1:=V1.put (x:=.iQ) (v:=.int z) rfl;refine dT (jw rfl (ao (bh V1.vs.t) (ao (bh V1.vs.f) (ao (bh aG) (ao cS aA)))) (OX R1 h0 h3 hj hs I hI KH TJ λkk w2 jb2 oA H2 hk VT Oq Rf R2 E2=>?_));obtain ⟨hin,hL⟩:=aaB kk w2 jb2 hk VT Oq Rf;have V2:=(V1.ext E2).put (x:=.cY) (v:=.int w.next) rfl;refine oq (jw rfl (ao (bh (lk (by decide) aG)) aA) (Fp R2 h0 h3 λCD H3 u tv lv R3 E3 Xh htv hlv=>?_));refine Xh _ λua q72 hu=>?_;clear Xh;obtain rfl:=q72;refine vw (R3.aM _ _ _ hu) rfl ?_;have V3:=(((V2.ext E3).put (x:=.d3) (v:=tv) rfl).put (x:=.bx) (v:=.int (fO z)) rfl).put (x:=.eG) (v:=lv) rfl;have eI:look .cY (putAll [.d3,.bx,.eG] [tv,.int (fO z),lv] (put .cY (.int w.next) (put .iQ (.int z) m)))=some (.int w.next):=lk (by decide) (lk (by decide) (lk (by decide) aG));have d0:look .bx (putAll [.d3,.bx,.eG] [tv,.int (fO z),lv] (put .cY (.int w.next) (put .iQ (.int z) m)))=some (.int (fO z)):=lk (by decide) aG;have KV:look .eG (putAll [.d3,.bx,.eG] [tv,.int (fO z),lv] (put .cY (.int w.next) (put .iQ (.int z) m)))=some lv:=aG;change Env g CD (putAll [.d3,.bx,.eG] [tv,.int (fO z),lv] (put .cY (.int w.next) (put .iQ (.int z) m))) _ _ _ _ _ _ _ at V3;generalize (putAll [.d3,.bx,.eG] [tv,.int (fO z),lv] (put .cY (.int w.next) (put .iQ (.int z) m)))=m3 at V3 eI d0 KV ⊢;refine cG (JT (bD (bh eI) cR (jW (.xn _ rfl) (aR (iJ (jB (ao (bh eI) (ao (bh d0) aA)) (λa4 h4=>?_)))))));have R4:=R3.dM h4 (m:=false) (o:=.tuple [.int w.next,.int (fO z)]);have E4:=aq R3 h4 (.k false (.tuple [.int w.next,.int (fO z)]));refine fq (R4.mU (i:=0) (by decide) Oq) λcv nm tn rg fv kk2 tt A J=>?_;refine J.wy λsh hc=>?_;refine J.bl.el λZ vs j0 O6 Yl=>?_;have V4:=V3.ext E4;refine EW V4.vs.f A.h rfl hc rfl (KR (x:=(w.next,fO z)) j0 R4.aM O6 (ak _ _ _) hin (aR (ar (ax ?_))));refine (hlv.ext E4.i) _ λla q73 Uz=>?_;obtain rfl:=q73;have hwl:=KS (z:=z);refine dT (p9 (p9 (dY V4.vs.vd (gG (ao (bh d0) aA) (λa5 h5=>?_)))));have R5:=R4.dM h5 (m:=false) (o:=.list [.int (fO z)]);have E5:=aq R4 h5 (.k false (.list [.int (fO z)]));have V5:=V4.ext E5;refine vP (R5.aM _ _ _ V5.du) (ak _ _ _) (by rw [List.length_map];exact Nat.lt_of_le_of_lt ‹_› (by decide)) λa6 h6=>?_;have R6:=R5.dM h6 (m:=false) (o:=.list (aN.map .int++[.int (fO z)]));have E6:=aq R5 h6 (.k false (.list (aN.map .int++[.int (fO z)])));have V6:=V5.ext E6;refine dY KV (vP (ak _ _ _) (R6.aM _ _ _ (E6 _ _ _ (E5 _ _ _ Uz))) (by simp only [List.length_append,List.length_map,List.length_map];refine (?_:aN.length+1+_<1000);omega) λa7 h7=>?_);have R7:=R6.dM h7 (m:=true) (o:=.list (aN.map .int++[.int (fO z)]++(kQ z).map .int));have E7:=aq R6 h7 (.k true (.list (aN.map .int++[.int (fO z)]++(kQ z).map .int)));have Xi:=V6.ext E7;have aaD:aN.map V.int++[V.int (fO z)]++(kQ z).map V.int=(aN++[fO z]++kQ z).map V.int:=by simp only [List.map_append,List.map_append];rfl
 have hbn:a7≠b:=λe=>by
  refine aQ V6.box.h λZ hb Z=>?_;simp only [e,R6.aM _ _ _ hb] at h7;injection h7
 have V7:Env g _ (put .kc (.ref a7) m3) s b a7 (pl+1) ns sf (aN++[fO z]++kQ z):=(.mk Xi.vs.putD Xi.ro Xi.box (by rw [aC,aaD]) Xi.sb hbn);generalize (put .kc (V.ref a7) m3)=m7 at V7 ⊢;generalize hD:aN++[fO z]++kQ z=ui at V7 hL;have FY:ui.length<=aN.length+3:=by simp only [<- hD,List.length_append,List.length_append];refine (?_:aN.length+1+_<=_);omega
 clear KV d0 eI V3 V4 V5 V6 Xi;refine l6 (Hl ?_);refine p9 (vV R7 V7 (by exact Nat.lt_of_le_of_lt ‹_› (by decide)) (by decide) λow8 H8 z8 g0 g1 R8 V8=>da (Fq ⟨by omega,by omega,by decide,by decide⟩ (md (by omega) (by unfold small;omega) ?_)));refine fV (λl m' H'=>∃w' az,Rel g az w' H'/\kE t ui w'/\Env g az m' s b a7 (pl+1+1) ns sf ui) ?_ ?_ ⟨w2,ow8,R8,hL,V8⟩
 ·intro l v m' H' K hv mQ mI
  refine nK mQ λw' az R' ef V'=>?_;refine ⟨trivial,?_⟩;have Fu:=V'.put (x:=.CT) (v:=v) rfl;refine bK (jw rfl (ao (bh Fu.vs.t) (ao (bh Fu.vs.f) aA)) (zC R' (λi hi=>(L.cN t ui w' ef i hi).1) (λi w6 QO H6 hi hT R6 E6=>?_) (λhn=>?_)))
  ·exact ar (mI _ _ ⟨w6,QO,R6,(L.cN t ui w' ef i hi).2 w6 hT,Fu.ext E6⟩)
  ·exact ar (mI _ _ ⟨w',az,R',ef,Fu⟩)
 ·intro m' H' mc
  refine nK mc λw' az R' ef V'=>?_;refine ⟨trivial,ax ?_⟩;have QR:=λKD m'' TO Qq (R'':Rel g KD w' Qq)(Fu:Env g KD m'' s b a7 TO ns sf ui)(Ro:TO<=pl+3)=>hK KD w' Qq m'' a7 TO ui R'' (L.next t ui w' ht ef) Fu Ro (by omega);refine cG (vA (iJ (zh (bh V'.vs.vs) (KP (R'.aM _ _ _ V'.ro) (by exact Nat.lt_of_lt_of_le ‹_› (by decide)) (da (Tj rfl ?_))))));cases decide ((ns.length:Int)>0) with
  |false=>exact aR (aR (ar (ax (ar (QR _ _ _ _ R' V' (by simp+arith only))))))
  |true=>
   refine bT (iJ (vV R' V' (by omega) (by decide) λow9 H9 z9 g0 g1 R9 V9=>da (kr eq_int ?_)));cases decide (z9=0) with
   |false=>exact aR (ar (ax (ar (QR _ _ _ _ R9 V9 (by simp+arith only)))))
   |true=>
    refine UW (L.fork t ui w' ht ef) λsl u1 u2 u3 u4 u5 u6 u7 u8=>?_;refine bT (dT (jK R9 (bh V9.vs.c) rfl rfl (aT (jK R9 (bh V9.vs.c) rfl rfl (ao (bh V9.vs.f) aA _ (BV R9 (by decide) u1 u2 u3 (λn f hn=>u4.one (by decide) u3 hn) λc aeQ H10 hc j4 HU WK=>cA ?_))))));have nC:(d6 w' 0 c sl).ps c=kz w'.next 0 sl:=ah;have ir:c≠0:=λe=>u1 (e▸j4);refine BU HU hc (by rw [nC];nofun) (by rw [nC];rfl) (λx hx kI Tv=>?_) ?_
    ·by_cases e:x=c
     ·exact e
     ·have Mj:(d6 w' 0 c sl).ps x=w'.ps x:=by unfold d6;rw [aD e,bE.1]
      rw [Mj] at kI Tv;exact absurd Tv (Int.ne_of_lt (u5 x hx kI))
    obtain ⟨f1,f2⟩:=u8 c hc j4;have V10:=(V9.ext WK).put (x:=.aZ) (v:=.ref (g.pa c)) rfl;have aaE:oB (d6 w' 0 c sl):=(.mk (by rw [show (d6 w' 0 c sl).eu=w'.eu from bE.2.2.2.2.2];exact u6.eu) (by rw [show (d6 w' 0 c sl).dG=w'.dG from bE.2.2.2.2.1];exact u6.dG));have J5:(d6 w' 0 c sl).fst=some 0:=by rw [show (d6 w' 0 c sl).fst=some (w'.fst.getD c) from bE.2.2.1,u7];rfl
    refine bK (jK HU (bh V10.vs.c) rfl rfl (ao (bh aG) (ao cS aA) _ (BW HU aaE f1 hc ir J5 (sl:=sl) (by rw [nC];rfl) λh' sl' aaF H11 F11 Mi E11=>?_)));have Hm:=V10.ext E11;refine bK (e7 (bh Hm.vs.vd) (l7 (Mi.aM _ _ _ Hm.du) ⟨rfl,ao cS aA _ (j3 (Mi.aM _ _ _ Hm.du) (by rw [List.length_map];omega) ?_)⟩));have YG:=Mi.mod Hm.du (l:=.k true (.list ((ui++[7]).map .int))) (o1:=.list (ui.map .int++[.int 7])) (λZ Z e=>by cases e;rw [List.map_append];rfl);refine ar (ax (ar (hK _ _ _ _ a7 (pl+1+1+1) (ui++[7]) YG (f2 h' sl' F11) (.mk Hm.vs ((bC ?_ _).trans Hm.ro) ?_ (aC _ _ _) Hm.sb Hm.db) (by simp+arith only) (by simp only [List.length_append];refine (?_:_+1<=_);omega))))
    ·exact λe=>by have:=Hm.ro;replace this:=(Hm.du)▸(e)▸this;cases this
    ·refine Hm.box _ λq74 k4=>?_;obtain ⟨ll,k1,k2,k3⟩:=q74
     refine (.mk ⟨ll,(bC Hm.db.symm _).trans k1,(bC ?_ _).trans k2,k3⟩ k4);intro e;replace k2:=(Hm.du)▸(e)▸k2;cases k2
end
def jY (w:W)(L:List Nat):W:={w with ps:=λx=>if x∈L then kP else w.ps x}
theorem B7:jY w []=w:=by
 unfold jY;have:(λx=>if x∈([]:List Nat) then kP else w.ps x)=w.ps:=funext λx=>if_neg nofun
 rw [this]
theorem zG:jY w (L++[j])=(jY w L).aL j kP:=by
 delta jY W.aL;congr 1;funext x;simp only [];by_cases e:x=j
 ·subst e;rw [if_pos (List.mem_append.mpr (.inr (.head _))),if_pos rfl]
 ·rw [if_neg e]
  have:x∈L++[j]↔x∈L:=by rw [List.mem_append,List.mem_singleton];exact ⟨λh=>h.resolve_right e,.inl⟩
  simp only [this]
theorem QS (w:W)(i:Nat):(fR w i).Pairwise (·<·):=List.Pairwise.filter _ List.pairwise_lt_range
theorem KY (h:(fR w i)[l]?=some j):j∉(fR w i).take l:=by
 intro hm;have hp:=QS w i;rw [<- List.take_append_drop l (fR w i)] at hp;have hd:(fR w i).drop l=j::(fR w i).drop (l+1):=by
  have fX:=jD h;rw [List.drop_eq_getElem_cons fX];rw [List.getElem?_eq_getElem fX] at h;rw [Option.some.inj h]
 rw [hd] at hp;exact Nat.lt_irrefl _ ((List.pairwise_append.mp hp).2.2 j hm j (.head _))
section
theorem TP (h:(ev C n).E e m H λv H=>jI H v λxs=>AI Q xs H):(ev C (n+1)).E (.gw e) m H Q:=h
theorem O7 {l:List Int}(hl:l.length<64)(hn:l.Nodup)(h:alloc H (.list ((b8 l).map .int)) Q):AI Q (l.map .int) H:=.mk _ (by rw [List.length_map];exact hl) rfl hn h
theorem TQ (h:H a=some (.list [.ref c]))(h':H b=some (.list [.ref c])):HP H (.ref a) (.ref b) true:=.one _ _ _ h h'
def O8 (ow:Ow)(vs:List V)(L:List (Int×Int)):Prop:=bZ (λv (x:Int×Int)=>bQ ow v (.tuple [.int x.1,.int x.2])) vs L
theorem vW (R:Rel g ow w H)(hf:look .dd m=some (.ref fd))(of:ow fd=.k mm (.list vs))(hL:O8 ow vs L)(hl:L.length<64)
  (hz:∀x:Int×Int,look z (put .bx (.int x.2) (put .cY (.int x.1) m))=some (.int (sel x))) (hQ:∀az H' a,Rel g az w H'->Ext ow az->az a=.k false (.list ((L.map sel).map .int))->Q (.ref a) H'):
  (ev C (n+4)).E (.kh (.var z) .cY .bx (.over (.var .dd)) none) m H Q:=by
 have hlen:=hL.len;refine O4 (kZ (bh hf) (jA (R.aM _ _ _ of) ⟨by show vs.length<1000;omega,?_⟩));refine l8 (λl acc H'=>H'=H/\acc=((L.take l).map sel).map .int) ?_ ?_ ⟨rfl,rfl⟩
 ·intro l v acc H' K hv mQ hK
  obtain ⟨e,ha⟩:=mQ;subst e;obtain ⟨x,hx,q67⟩:=hL.at hv;refine q67 _ λt aaG ht=>?_;clear q67;obtain rfl:=aaG;refine ⟨R.aM _ _ _ of,zq (R.aM _ _ _ ht) (Fs (bT (dY (hz x) (hK _ _ ⟨rfl,?_⟩))))⟩;simp only [jX hx,List.map_append,List.map_append,ha];rfl
 ·intro acc H' mc
  obtain ⟨e,ha⟩:=mc;subst e;refine ⟨R.aM _ _ _ of,λa h=>?_⟩;rw [show (Src.seq fd (.list vs) vs).items.length=L.length from hlen,List.take_length] at ha;subst ha;exact hQ _ _ a (R.dM h) (aq R h _) (aC _ _ _)
def Xj:List S:=[(.asg .dd (.listOf (.attr (.attr (.var .aV) .gL) .gd))),
  (.iy .aZ (.over (.aB (.var .aW) .dU [(.var .aV)])) [(.ez (.aB (.var .aZ) .ke []) [.dead] []),(.expr (.aB (.var .dd) .eL [(.aB (.var .aW) .sq [(.var .aZ)])]))]),
  (.asg .nQ (.kh (.var .cY) .cY .bx (.over (.var .dd)) none)),
  (.ez (.yD (.cmp .ne (.sorted (.kh (.var .bx) .cY .bx (.over (.var .dd)) none)) (.sorted (.var .kc))) (.cmp .ne (.gw (.var .nQ)) (.sorted (.var .nQ)))) [.dead] []),
  (.ret (.cmp .eq (.aB (.var .aW) .Aw []) (.lst [(.var .aV)])))]
theorem KZ (R:Rel g ow w H)(D:Done aN w)(V0:Env g ow m s b d pl ns sf aN)(hQ:∀H',Q (.bool true) H'):eK (ev (aj 12) 40) Xj m H (fin Q):=by
 refine D _ λq68 hd q69 hz=>?_;obtain ⟨jb,hj,Uy,Rf,hs3⟩:=q68;obtain ⟨h0,h0p⟩:=q69;refine fq (R.mU (i:=0) (by decide) hj) λcv nm tn rg fv kk2 tt A J=>?_;refine J.wy λsh hc=>?_;refine J.bl.el λZ vs j0 O6 Yl=>?_;refine dT (l9 (Wx V0.vs.f A.h rfl hc rfl) (iI j0 ⟨by exact Nat.lt_of_lt_of_le ‹_› (by decide),λfd vX=>?_⟩));have wZ:d≠fd:=λe=>by rw [<- e,R.aM _ _ _ V0.du] at vX;injection vX
 have R1:=R.dM vX (m:=true) (o:=.list vs);have E1:=aq R vX (.k true (.list vs));have V1:=(V0.ext E1).put (x:=.dd) (v:=.ref fd) rfl;refine l6 (vz (qI R1 (bh V1.vs.t) (λZ Z Z Z=>rfl) rfl (ao (bh V1.vs.f) aA _ (oz R1 (by decide) λoA H2 u R2 E2 hu=>?_))));refine hu _ λla q70 Uz=>?_;clear hu;obtain rfl:=q70;have V2:=V1.ext E2;refine jA (R2.aM _ _ _ Uz) ?_;have gQ:(found w jb).length=jb.bl.length+(fR w 0).length:=by unfold found;simp only [List.length_append,List.length_map]
 refine fV (λl m' H'=>∃az QU,Rel g az (jY w ((fR w 0).take l)) H'/\Vs g m' s b d/\az d=.k true (.list (aN.map .int))/\az la=.k false (.list ((fR w 0).map (G5 g)))/\az fd=.k true (.list QU)/\O8 az QU (jb.bl++((fR w 0).take l).map λj=>((w.ps j).aS,(w.ps j).status))/\look .dd m'=some (.ref fd)) ?_ ?_
  ⟨oA,vs,by simp only [List.take_zero,B7];exact R2,V2.vs,V2.du,Uz,E2 _ _ _ (aC _ _ _),by simp only [List.take_zero,List.map_nil,List.append_nil];exact O6.imp λZ Z z=>z.ext (E1.trans E2).i,aG⟩
 ·intro l v m' H' K hv mQ hK
  refine P9 mQ λaz QU R' V' TR K2 O9 hT KV=>?_;refine aQ (DG hv) λj k0 dp=>?_;subst dp;obtain ⟨zH,Aa⟩:=kx (List.mem_of_getElem? k0);have hnm:=KY k0;have YS:(jY w ((fR w 0).take l)).ps j=w.ps j:=if_neg hnm;have Tr:(w.ps j).st≠.ae:=by
   unfold eB at Aa;intro e;rw [e] at Aa;injection Aa
  have iq:j≠0:=by
   intro e;subst e;unfold eB at Aa;rw [h0p] at Aa;simp at Aa
  have hzz:=(hz j zH iq Tr).2;refine ⟨R'.aM _ _ _ K2,?_⟩;refine (?_:eK _ _ (put _ _ _) _ _);have Fu:=V'.put (x:=.aZ) (v:=G5 g j) rfl;refine R'.pw zH λZ Z Z Z Z Z B=>?_;refine cG (qG (fW (bh aG) B.h rfl rfl rfl aA (KQ R' zH (by rw [YS];exact hzz) λCD H3 R3 E3=>bq (aR (ar (ax ?_))))));have Xk:=E3 _ _ _ O9;have hTl:=hT.len;have hll:(fR w 0).length=(fR w 0).length:=rfl;have htk:((fR w 0).take l).length<=(fR w 0).length:=by rw [List.length_take];exact Nat.min_le_right _ _
  refine bK (e7 (bh (lk (by decide) KV)) (l7 (R3.aM _ _ _ Xk) ⟨rfl,aT (qI R3 (bh Fu.t) (λZ Z Z Z=>rfl) rfl (ao (bh aG) aA _ (Fc R3 zH λHT H4 u R4 E4 hu=>cA ?_)))⟩));replace hu:=(YS)▸hu;have K4:=E4 _ _ _ Xk;refine j3 (R4.aM _ _ _ K4) (by simp only [hTl,List.length_append,List.length_map];omega) (ar (hK _ _ ⟨HT.set fd (.k true (.list (QU++[u]))),QU++[u],?_,Fu,?_,?_,aC _ _ _,?_,lk (by decide) KV⟩))
  ·simp only [jX k0,zG]
   exact R4.mod K4 (λZ Z e=>by cases e;rfl)
  ·exact (bC wZ _).trans (E4 _ _ _ (E3 _ _ _ TR))
  ·exact (bC (λe=>by have:=E4 _ _ _ (E3 _ _ _ K2);replace this:=(K4)▸(e)▸this;cases this) _).trans (E4 _ _ _ (E3 _ _ _ K2))
  ·rw [jX k0,List.map_append,<- List.append_assoc]
   exact (hT.imp λZ Z z=>z.ext ((E3.trans E4).i.trans (kq K4 _))).snoc (hu.ext (kq K4 _))
 ·intro m' H' mc
  refine P9 mc λaz QU R' V' TR K2 O9 hT KV=>?_;refine ⟨R'.aM _ _ _ K2,ax ?_⟩;rw [show (Src.seq la (.list ((fR w 0).map (G5 g))) ((fR w 0).map (G5 g))).items.length=(fR w 0).length from List.length_map _,List.take_length] at R' hT;have hlen:(found w jb).length<64:=hs3;change O8 az QU (found w jb) at hT;generalize found w jb=L at hT hlen Uy Rf;refine dT (vW (sel:=(·.1)) R' KV O9 hT hlen (λx=>lk (by decide) aG) λWX H5 a5 R5 E5 h5=>?_);have V5:=V'.put (x:=.nQ) (v:=.ref a5) rfl;have aaH:=lk (x:=.nQ) (v:=.ref a5) (y:=.dd) (by decide) KV;have hT5:O8 WX QU L:=hT.imp λZ Z z=>z.ext E5.i;refine cG (JT (iJ (vU (vW (sel:=(·.2)) R5 aaH (E5 _ _ _ O9) hT5 hlen (λx=>aG) λQO H6 a6 R6 E6 h6=>?_))));refine iI (R6.aM _ _ _ h6) (zF (by rw [List.length_map];exact hlen) λa7 h7=>?_);have R7:=R6.dM h7 (m:=false) (o:=.list ((b8 (L.map (·.2))).map .int));have E7:=aq R6 h7 (.k false (.list ((b8 (L.map (·.2))).map .int)));have c7:(QO.set a7 (.k false (.list ((b8 (L.map (·.2))).map .int)))) a7=_:=aC _ _ _;have d7:=E7 _ _ _ (E6 _ _ _ (E5 _ _ _ TR));have p7:=E7 _ _ _ (E6 _ _ _ h5);refine vU (dY V5.vd (iI (R7.aM _ _ _ d7) (zF hd λa8 h8=>?_)));have R8:=R7.dM h8 (m:=false) (o:=.list ((b8 aN).map .int));have E8:=aq R7 h8 (.k false (.list ((b8 aN).map .int)));refine Ft (R8.aM _ _ _ (E8 _ _ _ c7)) (ak _ _ _) Uy (aR ?_);have p8:=E8 _ _ _ p7;refine iJ (TP (dY aG (iI (R8.aM _ _ _ p8) (O7 (by rw [List.length_map];exact hlen) Rf λa9 h9=>?_))));have R9:=R8.dM h9 (m:=false) (o:=.list ((b8 (L.map (·.1))).map .int));have E9:=aq R8 h9 (.k false (.list ((b8 (L.map (·.1))).map .int)));have c9:((QO.set a7 (.k false (.list ((b8 (L.map (·.2))).map .int)))).set a8 (.k false (.list ((b8 aN).map .int)))).set a9 (.k false (.list ((b8 (L.map (·.1))).map .int))) a9=_:=aC _ _ _;refine vU (dY aG (iI (R9.aM _ _ _ (E9 _ _ _ p8)) (zF (by rw [List.length_map];exact hlen) λa10 Wr=>?_)));have HU:=R9.dM Wr (m:=false) (o:=.list ((b8 (L.map (·.1))).map .int));have WK:=aq R9 Wr (.k false (.list ((b8 (L.map (·.1))).map .int)));refine Ft (HU.aM _ _ _ (WK _ _ _ c9)) (ak _ _ _) rfl (aR (ar (ax ?_)));refine fU (JO (qI HU (bh V5.t) (λZ Z Z Z=>rfl) rfl (cA (Tf HU λaaF H11 u Mi E11 Xh=>gG (ao (bh V5.f) aA) (λa12 TB=>?_)))));refine Xh _ λua q71 hu=>?_;clear Xh;obtain rfl:=q71;have aaI:((List.range 24).filter λj=>!decide (((jY w (fR w 0)).ps j).st=.ae))=[0]:=by
   have:∀j,j∈List.range 24->(!decide (((jY w (fR w 0)).ps j).st=.ae))=(j==0):=λj hj=>by
    have zH:=List.mem_range.mp hj;refine (?_:(!decide ((if j∈fR w 0 then kP else w.ps j).st=.ae))=(j==0));by_cases hm:j∈fR w 0
    ·rw [if_pos hm]
     have iq:j≠0:=λe=>by
      subst e;have:=(kx hm).2;unfold eB at this;rw [h0p] at this;simp at this
     simp only [beq_eq_false_iff_ne.mpr iq];rfl
    ·rw [if_neg hm]
     by_cases e:j=0
     ·subst e;rw [decide_eq_false h0];rfl
     ·simp only [beq_eq_false_iff_ne.mpr e]
      by_cases hu:(w.ps j).st=.ae
      ·rw [decide_eq_true hu];rfl
      ·exact absurd (qH zH (hz j zH e hu).1) hm
   refine (List.filter_congr this)▸?_;rfl
  replace hu:=(aaI)▸hu;exact kr (TQ (c:=g.pa 0) ((aY (λe=>by rw [<- e,Mi.aM _ _ _ hu] at TB;injection TB) _).trans (Mi.aM _ _ _ hu)) (ak _ _ _)) (bA (hQ _))
end
section
variable {Quiet kE Fin:Nat->List Int->W->Prop}
theorem TS {z z':Int}(h:Q (.int (if z'<z then z' else z)) H):Ga H Q (.int z) (.int z'):=.mk _ _ h
theorem K5 (L:cT Quiet kE Fin)(R:Rel g ow w H)(hF:Fin 0 aN w)(V0:Env g ow m s b d pl ns sf aN)(hQ:∀H',Q (.bool true) H'):
  eK (ev (aj 12) 40) (.iy .ix (.range (.int 200)) [(.ez (.jq (.dQ .eS [(.var .aW),(.var .aV)])) [.brk] [])]::Xj) m H (fin Q):=by
 refine l6 (rS (da (md (by decide) (by unfold small;decide) ?_)));refine fV (λl m' H'=>∃w' az,Rel g az w' H'/\Fin l aN w'/\Env g az m' s b d pl ns sf aN) ?_ ?_ ⟨w,ow,R,hF,V0⟩
 ·intro l v m' H' K hv mQ hK
  refine nK mQ λw' az R' QV V'=>?_;refine cX (pB hv) λdp fX=>?_;subst dp;have hl:l<200:=by omega
  refine ⟨trivial,?_⟩;have Fu:=V'.put (x:=.ix) (v:=.int (0+l)) rfl;refine cG (EX (EY (jw rfl (ao (bh Fu.vs.t) (ao (bh Fu.vs.f) aA)) (zC R' (λi hi=>(L.fin l aN w' hl QV i hi).1) (λi w6 QO H6 hi hT R6 E6=>bq ?_) (λhn=>bq ?_)))))
  ·exact aR (ar (ax (ar (hK _ _ ⟨w6,QO,R6,(L.fin l aN w' hl QV i hi).2 w6 hT,Fu.ext E6⟩))))
  ·exact bT (Xg (k_brk (ax (KZ R' (L.rY l aN w' (Nat.le_of_lt hl) QV (.inl hn)) Fu hQ))))
 ·intro m' H' mc
  refine nK mc λw' az R' QV V'=>?_;exact ⟨trivial,ax (KZ R' (L.rY 200 aN w' (Nat.le_refl _) QV (.inr rfl)) V' hQ)⟩
theorem TU (L:cT Quiet kE Fin)(hs:H s=some (.ro ns))(hl:ns.length<900):(aj 13).fn .nP [.ref s] H (λv Z=>v=.bool true):=by
 have K0:Kn (λa=>if a=s then .k false (.ro ns) else .other) H:=λa mm o h=>by
  have h':(if a=s then oj.k false (.ro ns) else oj.other)=.k mm o:=h;by_cases e:a=s
  ·subst e;replace h':=(if_pos rfl)▸h';cases h';exact hs
  ·rw [if_neg e] at h';injection h'
 have o0:(λa=>if a=s then oj.k false (.ro ns) else .other) s=.k false (.ro ns):=if_pos rfl;generalize (λa=>if a=s then oj.k false (.ro ns) else .other)=wB at K0 o0;refine sZ rfl rfl rfl (O3 (JP (aT (TL (dY rfl (da (O0 hs (by omega) (by decide) (by decide) λl L8=>ao cS aA _ (λb hb=>gG aA (λd hd=>?_)))))))));have N1:=K0.nw L8 (l:=.k false (.list ((ns.take 20).map .int))) (o:=.list ((ns.take 20).map .int)) (λZ Z e=>by cases e;rfl);have N2:=N1.kn.nw hb (l:=.k true (.list [.ref l,.int (0:Nat)])) (o:=.list [.ref l,.int 0]) (λZ Z e=>by cases e;rfl);have N3:=N2.kn.nw hd (l:=.k true (.list (([]:List Int).map .int))) (o:=.list []) (λZ Z e=>by cases e;rfl);have YO:l≠b:=λe=>by rw [<- e,ak] at hb;injection hb
 have hdb:d≠b:=λe=>by rw [e,ak] at hd;injection hd
 have L5:s≠b:=λe=>by
  have:=N1.kn _ _ _ (N1.ee _ _ _ o0);rw [e] at this;have h2:=this.symm.trans hb;injection h2
 refine oq (jw rfl aA (DP N3.kn λg w HT H4 v St R4 E4 vG=>?_));refine vG _ λa q66 hv=>?_;clear vG;obtain rfl:=q66;refine vw (R4.aM _ _ _ hv) rfl ?_;have V0:Env g HT (putAll [.aW,.bW,.aV] [.ref g.tab,.ref g.aj,.ref (g.pa 0)] [(.jn,.ref s),(.kc,.ref d),(.jH,.ref b)]) s b d 0 ns (ns.take 20) []:=
  (.mk (.mk rfl rfl rfl rfl rfl rfl) (E4 _ _ _ ((N1.trans (N2.trans N3)).ee _ _ _ o0)) (.mk ⟨l,E4 _ _ _ (N3.ee _ _ _ (aC _ _ _)),E4 _ _ _ (N3.ee _ _ _ (N2.ee _ _ _ (aC _ _ _))),YO⟩ (by rw [List.length_take];omega)) (E4 _ _ _ (aC _ _ _)) L5 hdb)
 have Xl:=R4.aM _ _ _ V0.ro;refine l6 ?_;have hN:(1:Int)+(if (ns.length:Int)<3 then (ns.length:Int) else 3)<=4:=by split<;>omega
 have hN0:(0:Int)<=1+(if (ns.length:Int)<3 then (ns.length:Int) else 3):=by split<;>grind only
 refine rS (p9 (da (Xf (da (zh (bh rfl) (KP Xl (by omega) (TS (pA ?_))))))));generalize (1:Int)+(if (ns.length:Int)<3 then (ns.length:Int) else 3)=N at hN hN0;refine md (by omega) (by unfold small;omega) ?_;refine fV (λt m' H'=>∃w' az d' TN oK,Rel g az w' H'/\Quiet t oK w'/\Env g az m' s b d' TN ns (ns.take 20) oK/\TN<=3*t/\oK.length<=4*t) ?_ ?_ ⟨w,HT,d,0,[],R4,L.start w St,V0,Nat.le_refl _,Nat.le_refl _⟩
 ·intro t v m' H' K hv mQ hK
  obtain ⟨w',az,d',TN,oK,R',hQ',V',hp,Iv⟩:=mQ;obtain ⟨rfl,fX⟩:=pB hv;have ht:t<4:=by omega
  refine ⟨trivial,?_⟩;exact KU L R' hQ' ht (V'.put (x:=.ix) (v:=.int (0+t)) rfl) (by omega) hl (by omega) λoA w2 H2 m2 d2 pl2 aaK R2 hQ2 V2 h1 h2=>hK _ _ ⟨w2,oA,d2,pl2,aaK,R2,hQ2,V2,by omega,by omega⟩
 ·intro m' H' mc
  obtain ⟨w',az,d',TN,oK,R',hQ',V',hp,Iv⟩:=mc;have hlen:(Src.nums (upTo 0 N)).items.length<=4:=by show ((upTo 0 N).map V.int).length<=4;unfold upTo;simp only [List.length_map,List.length_map,List.length_range];omega
  exact ⟨trivial,ax (K5 L R' (L.tf _ _ _ hlen hQ') V' λZ=>rfl)⟩
end
section
set_option genCtorIdx false
inductive CE (u:Unit) where|r|lq|ka|kd|b|c|rl|f7
abbrev Rl:=CE ()
inductive K6 (u:Unit) where|R0|E1|X0|K0|C0|C1|C2|B0|B1|B2|B3|B4|L0|Q0|L1|L2
abbrev PC:=K6 ()
inductive FS where|nil|cN (z:Int)|«until» (p:Int)
inductive Gh where|free|fP (r:Rl)|live (r:Rl)(pc:PC)|first (s:FS)
noncomputable def Gh.ctorIdx (g:Gh):Nat:=Gh.casesOn g 0 (λZ=>1) (λZ Z=>2) (λZ=>3)
noncomputable def FS.ctorIdx (g:FS):Nat:=FS.casesOn g 0 (λZ=>1) (λZ=>2)
noncomputable def K6.ctorIdx {u:Unit}(g:K6 u):Nat:=K6.casesOn g 0 1 2 3 4 5 6 7 8 9 10 11 12 13 14 15
noncomputable def CE.ctorIdx {u:Unit}(g:CE u):Nat:=CE.casesOn g 0 1 2 3 4 5 6 7
theorem K6.inj {a b:PC}(h:a.ctorIdx=b.ctorIdx):a=b:=
 have f (p:PC):[K6.R0,.E1,.X0,.K0,.C0,.C1,.C2,.B0,.B1,.B2,.B3,.B4,.L0,.Q0,.L1,.L2][p.ctorIdx]?=some p:=K6.casesOn p rfl rfl rfl rfl rfl rfl rfl rfl rfl rfl rfl rfl rfl rfl rfl rfl
 Option.some.inj ((f a).symm.trans (h▸f b))
theorem CE.inj {a b:Rl}(h:a.ctorIdx=b.ctorIdx):a=b:=
 have f (p:Rl):[CE.r,.lq,.ka,.kd,.b,.c,.rl,.f7][p.ctorIdx]?=some p:=CE.casesOn p rfl rfl rfl rfl rfl rfl rfl rfl
 Option.some.inj ((f a).symm.trans (h▸f b))
noncomputable instance:DecidableEq PC:=λZ Ym=>decidable_of_iff _ ⟨K6.inj,congrArg _⟩
noncomputable instance:DecidableEq Rl:=λZ Ym=>decidable_of_iff _ ⟨CE.inj,congrArg _⟩
theorem TV {P:Prop}(h:(0:Int)=1):P:=absurd h (by decide)
theorem eD {a b:Gh}{P:Prop}(h:Nat.beq a.ctorIdx b.ctorIdx=false)(e:a=b):P:=Qo (e▸h)
theorem pR {a b:PC}{P:Prop}(h:Nat.beq a.ctorIdx b.ctorIdx=false)(e:a=b):P:=Qo (e▸h)
theorem DQ {P:Prop}(h:Nat.beq a.ctorIdx b.ctorIdx=false)(e:Gh.first a=.first b):P:=Qo ((show a=b from by injection e)▸h)
noncomputable instance (g:Gh):Decidable (g=.first .nil):=Gh.casesOn g (.isFalse (eD rfl)) (λZ=>.isFalse (eD rfl)) (λZ Z=>.isFalse (eD rfl)) (λs=>FS.casesOn s (.isTrue rfl) (λZ=>.isFalse (DQ rfl)) (λZ=>.isFalse (DQ rfl)))
noncomputable def qh:PC->List rN
 |.R0=>[.run .run]
 |.E1=>[.exit 1]
 |.X0=>[.exit 0]
 |.K0=>[.run (.back .run)]
 |.C0=>[.run (.semi (.back .run) (.back (.pipe .run .run)))]
 |.C1=>[.wait,.run (.back (.pipe .run .run))]
 |.C2=>[.run (.back (.pipe .run .run))]
 |.B0=>[.run (.pipe .run .run)]
 |.B1=>[.close 3,.close 4,.wait,.wait,.exit 0]
 |.B2=>[.close 4,.wait,.wait,.exit 0]
 |.B3=>[.wait,.wait,.exit 0]
 |.B4=>[.wait,.exit 0]
 |.L0=>[.lead 1 4,.close 3,.close 4,.run .run]
 |.Q0=>[.lead 0 3,.close 3,.close 4,.run .run]
 |.L1=>[.close 3,.close 4,.run .run]
 |.L2=>[.close 4,.run .run]
noncomputable def YT:FS->List rN
 |.nil=>[]
 |.cN z=>[.cN (te z)]
 |.until p=>[.until p]
def M3 (sl:ON):Prop:=∃a b c,sl=[some a,some b,some c,none,none,none]
def M4 (sl:ON):Prop:=∃a b c e,sl=[some a,some b,some c,none,some e,none]
def M5 (sl:ON):Prop:=∃a b c d e,sl=[some a,some b,some c,some d,some e,none]
def mask:PC->ON->Prop
 |.B1|.L0|.Q0|.L1=>M5
 |.B2|.L2=>M4
 |_=>M3
noncomputable def DS:PC->Nat
 |.B0|.B1|.B2|.B3=>3
 |.C0|.C1|.B4=>2
 |_=>1
noncomputable def k9:PC->Bool
 |.C1|.B3|.B4=>true
 |_=>false
inductive nk:Rl->PC->Prop
 |rR0:nk .r .R0
 |rE1:nk .r .E1
 |Xm:nk .rl .R0
 |aaL:nk .rl .E1
 |Xn:nk .lq .L0
 |Xo:nk .lq .Q0
 |aaM:nk .lq .L1
 |aaN:nk .lq .L2
 |aaO:nk .lq .R0
 |aaP:nk .lq .E1
 |Xp:nk .ka .K0
 |Xq:nk .ka .X0
 |Xr:nk .kd .K0
 |Xs:nk .kd .X0
 |bB0:nk .b .B0
 |bB1:nk .b .B1
 |bB2:nk .b .B2
 |bB3:nk .b .B3
 |bB4:nk .b .B4
 |bX0:nk .b .X0
 |cC0:nk .c .C0
 |cC1:nk .c .C1
 |cC2:nk .c .C2
 |cX0:nk .c .X0
noncomputable def vY:Rl->Int
 |.r|.lq|.rl=>1
 |.f7=>7
 |_=>0
structure AP where
 g:Gh
 sl:Bool
 aS:Int
 aJ:Option Nat
structure A where
 ps:Nat->AP
 next:Int
 last:Nat
 fd:List (Int×Int)
 np:Nat
noncomputable def A.set (a:A)(i:Nat)(p:AP):A:={a with ps:=λj=>if j=i then p else a.ps j}
def Hn.ZF (o:Option Jb)(st:List rN)(n:Nat)(Z:Prop):Prop:=∀(jb:Jb)(h1:o=some jb)(h2:jb.aI=st)(h3:jb.bl.length+n<=9),Z
def Hn (o st n):=∀Z:Prop,Hn.ZF o st n Z->Z
theorem Hn.mk:Hn.ZF o st n (Hn o st n):=λjb h1 h2 h3 _ Z=>Z jb h1 h2 h3
def Ho.ZF (o:Option Jb)(st:List rN)(fd:List (Int×Int))(Z:Prop):Prop:=∀(jb:Jb)(h1:o=some jb)(h2:jb.aI=st)(h3:jb.bl=fd),Z
def Ho (o st fd):=∀Z:Prop,Ho.ZF o st fd Z->Z
theorem Ho.mk:Ho.ZF o st fd (Ho o st fd):=λjb h1 h2 h3 _ Z=>Z jb h1 h2 h3
def TX.ZF (o:Option ON)(m:ON->Prop)(Z:Prop):Prop:=∀(sl:ON)(h1:o=some sl)(h2:m sl),Z
def TX (o m):=∀Z:Prop,TX.ZF o m Z->Z
theorem TX.mk:TX.ZF o m (TX o m):=λsl h1 h2 _ Z=>Z sl h1 h2
def CF.ZF (t:Nm)(c:Ch)(n:Int)(pc:PC)(Z:Prop):Prop:=∀(st:t=.aU)(ch:c=.child n)(w:k9 pc=true),Z
def CF (t c n pc):=∀Z:Prop,CF.ZF t c n pc Z->Z
theorem CF.mk:CF.ZF t c n pc (CF t c n pc):=λst ch w _ Z=>Z st ch w
def CF.st (Z:CF t c n pc):=Z _ λst ch w=>st
def CF.ch (Z:CF t c n pc):=Z _ λst ch w=>ch
def CF.w (Z:CF t c n pc):=Z _ λst ch w=>w
inductive FCh (c:Ch)(n:Int)(s:FS):Prop
 |nil (e:s=.nil) (h:c=.lines)
 |un (q:Int) (e:s=.until q) (h:c=.child n)
def Hq.ZF (t:Nm)(c:Ch)(n:Int)(s:FS)(Z:Prop):Prop:=∀(st:t=.aU)(ch:FCh c n s),Z
def Hq (t c n s):=∀Z:Prop,Hq.ZF t c n s Z->Z
theorem Hq.mk:Hq.ZF t c n s (Hq t c n s):=λst ch _ Z=>Z st ch
def Hq.st (Z:Hq t c n s):=Z _ λst ch=>st
def Hq.ch (Z:Hq t c n s):=Z _ λst ch=>ch
def B8.ZF (t:Nm)(u n:Int)(o:Option Nat)(p:AP)(r:Rl)(Z:Prop):Prop:=∀(st:t=.bc)(status:u=vY r)(aS:n=p.aS)(aJ:o=p.aJ)(sl:p.sl=false),Z
def B8 (t u n o p r):=∀Z:Prop,B8.ZF t u n o p r Z->Z
theorem B8.mk:B8.ZF t u n o p r (B8 t u n o p r):=λst status aS aJ sl _ Z=>Z st status aS aJ sl
def B8.st (Z:B8 t u n o p r):=Z _ λst status aS aJ sl=>st
def B8.status (Z:B8 t u n o p r):=Z _ λst status aS aJ sl=>status
def B8.aS (Z:B8 t u n o p r):=Z _ λst status aS aJ sl=>aS
def B8.aJ (Z:B8 t u n o p r):=Z _ λst status aS aJ sl=>aJ
def B8.sl (Z:B8 t u n o p r):=Z _ λst status aS aJ sl=>sl
def Ab.ZF (P:Pr)(p:AP)(r:Rl)(pc:PC)(Z:Prop):Prop:=∀(fit:nk r pc)(aS:P.aS=p.aS)(aJ:P.aJ=p.aJ)(dq:Hn P.dq (qh pc) (DS pc))(fl:TX P.fl (mask pc))(qJ:if p.sl then CF P.st P.cF p.aS pc else P.st=.bB),Z
def Ab (P p r pc):=∀Z:Prop,Ab.ZF P p r pc Z->Z
theorem Ab.mk:Ab.ZF P p r pc (Ab P p r pc):=λfit aS aJ dq fl qJ _ Z=>Z fit aS aJ dq fl qJ
def Ab.fit (Z:Ab P p r pc):=Z _ λfit aS aJ dq fl qJ=>fit
def Ab.aS (Z:Ab P p r pc):=Z _ λfit aS aJ dq fl qJ=>aS
def Ab.aJ (Z:Ab P p r pc):=Z _ λfit aS aJ dq fl qJ=>aJ
def Ab.dq (Z:Ab P p r pc):=Z _ λfit aS aJ dq fl qJ=>dq
def Ab.fl (Z:Ab P p r pc):=Z _ λfit aS aJ dq fl qJ=>fl
def Ab.qJ (Z:Ab P p r pc):=Z _ λfit aS aJ dq fl qJ=>qJ
def Ac.ZF (P:Pr)(p:AP)(fd:List (Int×Int))(s:FS)(Z:Prop):Prop:=∀(aS:P.aS=p.aS)(pS:P.aJ=none)(aJ:p.aJ=none)(dq:Ho P.dq (YT s) fd)(fl:TX P.fl M3)(qJ:if p.sl then Hq P.st P.cF p.aS s else P.st=.bB),Z
def Ac (P p fd s):=∀Z:Prop,Ac.ZF P p fd s Z->Z
theorem Ac.mk:Ac.ZF P p fd s (Ac P p fd s):=λaS pS aJ dq fl qJ _ Z=>Z aS pS aJ dq fl qJ
def Ac.aS (Z:Ac P p fd s):=Z _ λaS pS aJ dq fl qJ=>aS
def Ac.pS (Z:Ac P p fd s):=Z _ λaS pS aJ dq fl qJ=>pS
def Ac.aJ (Z:Ac P p fd s):=Z _ λaS pS aJ dq fl qJ=>aJ
def Ac.dq (Z:Ac P p fd s):=Z _ λaS pS aJ dq fl qJ=>dq
def Ac.fl (Z:Ac P p fd s):=Z _ λaS pS aJ dq fl qJ=>fl
def Ac.qJ (Z:Ac P p fd s):=Z _ λaS pS aJ dq fl qJ=>qJ
def Xu (P:Pr)(p:AP)(fd:List (Int×Int)):Gh->Prop
 |.free=>P=kP
 |.fP r=>B8 P.st P.status P.aS P.aJ p r
 |.live r pc=>Ab P p r pc
 |.first s=>Ac P p fd s
def PM (P:Pr)(p:AP)(fd:List (Int×Int)):Prop:=Xu P p fd p.g
section
theorem PM.at (h:PM P p fd)(e:p.g=g):Xu P p fd g:=(congrArg (Xu P p fd) e).mp h
theorem PM.Pa (e:p.g=g)(h:Xu P p fd g):PM P p fd:=(congrArg (Xu P p fd) e).mpr h
def Pb (s:Bool):Gh->Nm
 |.free=>.ae
 |.fP _=>.bc
 |.live _ _=>cond s .aU .bB
 |.first _=>cond s .aU .bB
theorem K7 {a b:Bool}{A:Prop}(hA:A->x=y)(h:if a=true then A else x=z):x=cond a y z:=by
 induction a with
 |true=>exact hA h
 |false=>exact h
theorem PM.st (h:PM P p fd):P.st=Pb p.sl p.g:=by
 revert h;unfold PM
 induction p.g with
 |free=>intro h;rw [h];rfl
 |fP r=>exact B8.st
 |live r pc=>exact λh=>K7 (b:=true) CF.st h.qJ
 |first s=>exact λh=>K7 (b:=true) Hq.st h.qJ
noncomputable def Xv (g:Gh):Bool:=match g with
 |.fP _=>true
 |_=>false
theorem PM.aS (h:PM P p fd):p.g≠.free->P.aS=p.aS:=by
 revert h;unfold PM
 induction p.g with
 |free=>exact λZ h=>absurd rfl h
 |fP r=>exact λh Z=>h.aS
 |live r pc=>exact λh Z=>h.aS
 |first s=>exact λh Z=>h.aS
theorem PM.aaR (h:PM P p fd):(p.g=.free->p.aJ=none)->P.aJ=p.aJ:=by
 revert h;unfold PM
 induction p.g with
 |free=>exact λh e=>(congrArg Pr.aJ h).trans (e rfl).symm
 |fP r=>exact λh Z=>h.aJ
 |live r pc=>exact λh Z=>h.aJ
 |first s=>exact λh Z=>h.pS.trans h.aJ.symm
end
def Mt.ZF (w:W)(a:A)(Z:Prop):Prop:=∀(ps:∀i,i<24->PM (w.ps i) (a.ps i) a.fd) (z:∃s,(a.ps 0).g=.first s) (nz:∀i,i<24->i≠0->∀s,(a.ps i).g≠.first s) (next:w.next=a.next) (last:w.last=a.last) (fst:w.fst=some 0) (hF:fM w) (np:w.eu=a.np/\w.dG=2*a.np),Z
def Mt (w a):=∀Z:Prop,Mt.ZF w a Z->Z
theorem Mt.mk:Mt.ZF w a (Mt w a):=λps z nz next last fst hF np _ Z=>Z ps z nz next last fst hF np
def Mt.ps (Z:Mt w a):=Z _ λps z nz next last fst hF np=>ps
def Mt.z (Z:Mt w a):=Z _ λps z nz next last fst hF np=>z
def Mt.nz (Z:Mt w a):=Z _ λps z nz next last fst hF np=>nz
def Mt.next (Z:Mt w a):=Z _ λps z nz next last fst hF np=>next
def Mt.last (Z:Mt w a):=Z _ λps z nz next last fst hF np=>last
def Mt.fst (Z:Mt w a):=Z _ λps z nz next last fst hF np=>fst
def Mt.hF (Z:Mt w a):=Z _ λps z nz next last fst hF np=>hF
def Mt.np (Z:Mt w a):=Z _ λps z nz next last fst hF np=>np
noncomputable def A.S (a:A)(f:AP->Int):Int:=fF (λi=>f (a.ps i)) 24
noncomputable def DT:PC->Int
 |.E1|.X0|.B3|.B4=>3
 |.R0=>4
 |.L2|.B2=>5
 |.L1|.B1=>6
 |.L0|.Q0=>7
 |.K0=>8
 |.B0=>21
 |.C1|.C2=>25
 |.C0=>35
def cJ (p:AP):Int:=match p.g with
 |.free=>0
 |.fP r=>if (r=.r\/r=.b)/\p.aJ≠some 0 then 2 else 1
 |.live _ pc=>DT pc+(if k9 pc=true/\p.sl=false then 1 else 0)
 |.first s=>(match s with|.cN _=>36|_=>0)+(if p.sl then 0 else 1)
noncomputable def vZ:Rl->Int
 |.r|.b|.lq|.f7=>1
 |_=>0
noncomputable def cU (p:AP):Int:=match p.g with
 |.free=>0
 |.fP r=>vZ r
 |.live r pc=>vZ r+(match pc with|.C0=>4|.C1=>3|.C2=>3|.K0=>1|.B0=>2|_=>0)
 |.first s=>match s with|.cN _=>4|_=>0
noncomputable def qK:Rl->Int
 |.kd|.c|.rl=>1
 |_=>0
noncomputable def ln (p:AP):Int:=match p.g with
 |.free=>0
 |.fP r=>qK r
 |.live r _=>qK r
 |.first s=>match s with|.until _=>-1|_=>0
noncomputable def K8:Rl->Int
 |.ka=>1
 |_=>0
def kF (p:AP):Int:=match p.g with
 |.free=>0
 |.fP r=>K8 r
 |.live r pc=>K8 r - (if pc=.C1 then 1 else 0)
 |.first _=>0
noncomputable def dX (p:AP):Int:=match p.g with
 |.live _ pc=>match pc with|.C0|.C1|.C2|.B0=>1|_=>0
 |.first s=>match s with|.cN _=>1|_=>0
 |_=>0
noncomputable def uj:Rl->List Int
 |.r|.rl=>[1]
 |.kd|.b|.c=>[0]
 |.f7=>[7]
 |_=>[]
noncomputable def zI (g:Gh):List Int:=match g with
 |.free=>[]
 |.fP r=>uj r
 |.live r pc=>uj r++(match pc with|.K0=>[1]|.C0=>[1,0]|.C1=>[0]|.C2=>[0]|_=>[])
 |.first s=>match s with|.cN z=>fO z::kQ z|_=>[]
noncomputable def cI (s:Int):List Int->Int
 |[]=>0
 |x::l=>(if x=s then 1 else 0)+cI s l
noncomputable def dl (s:Int)(p:AP):Int:=cI s (zI p.g)
noncomputable def need:Gh->Option Int
 |.live _ .C1=>some 1
 |.live _ .B1=>some 2
 |.live _ .B2=>some 2
 |.live _ .B3=>some 2
 |.live _ .B4=>some 1
 |.live .b .X0=>some 0
 |.live _ .X0=>none
 |.first _=>none
 |_=>some 0
noncomputable def qi (a:A)(i:Nat):Int:=a.S λp=>if p.aJ=some i then 1 else 0
noncomputable def bR:Gh->Option Rl
 |.fP r=>some r
 |.live r _=>some r
 |_=>none
noncomputable def Xw:Rl->Bool
 |.lq=>false
 |.ka=>false
 |_=>true
inductive oL:Gh->Rl->Prop
 |x1:oL (.live .ka .X0) .r
 |x2:oL (.live .kd .X0) .r
 |c:oL (.live .c .X0) .b
 |ka:oL (.live .c .C1) .ka
 |b1:oL (.live .b .B1) .lq
 |b2:oL (.live .b .B2) .lq
 |b3:oL (.live .b .B3) .lq
 |b4:oL (.live .b .B4) .lq
noncomputable def Pc (pc:PC)(x0 c1 b:Option Rl):Option Rl:=K6.casesOn pc none none x0 none none c1 none none b b b b none none none none
noncomputable def Pd (r:Rl)(pc:PC):Option Rl:=CE.casesOn r none none (Pc pc (some .r) none none) (Pc pc (some .r) none none) (Pc pc none none (some .lq)) (Pc pc (some .b) (some .ka) none) none none
noncomputable def Xx (g:Gh):Option Rl:=Gh.casesOn g none (λZ=>none) Pd (λZ=>none)
theorem oL.fn (h:oL g r):Xx g=some r:=by induction h<;>rfl
noncomputable def isX (pc:PC):Bool:=K6.casesOn pc false true true false false false false false false false false false false false false false
noncomputable def UK (pc:PC):Bool:=K6.casesOn pc false false false true true false true false false false false false false false false false
inductive Pe (r:Rl)(p:Nat)(g:Gh):Prop
 |z (h:p=0) (t:Xw r=true)
 |k (h:oL g r)
def fj.uk (r:Rl)(p:Nat)(q:AP):Prop:=Pe r p q.g
def TY (p:Nat)(q:AP):Option Rl->Prop
 |some r=>fj.uk r p q
 |none=>False
def fj (g:Gh)(p:Nat)(q:AP):Prop:=TY p q (bR g)
theorem TZ (h:oL g .ka):g=.live .c .C1:=by cases h;rfl
theorem Pg (h:oL g .b):g=.live .c .X0:=by cases h;rfl
theorem T1 (h:oL g r):qK r=0:=by induction h<;>rfl
def rZ.ZF (s:Nat->AP)(i:Nat)(Z:Prop):Prop:=∀(p:Nat)(h1:(s i).aJ=some p)(h2:p<24)(h3:(s p).aS<(s i).aS)(h4:(s p).g≠.free)(h5:fj (s i).g p (s p)),Z
def rZ (s i):=∀Z:Prop,rZ.ZF s i Z->Z
theorem rZ.mk:rZ.ZF s i (rZ s i):=λp h1 h2 h3 h4 h5 _ Z=>Z p h1 h2 h3 h4 h5
def B9.ZF (s:Nat->AP)(l:Nat)(i:Nat)(Z:Prop):Prop:=∀(c:Nat)(h1:(s i).aJ=some c)(h2:c≠0)(h3:nB l i<nB l c),Z
def B9 (s l i):=∀Z:Prop,B9.ZF s l i Z->Z
theorem B9.mk:B9.ZF s l i (B9 s l i):=λc h1 h2 h3 _ Z=>Z c h1 h2 h3
def oM.ZF (s:Nat->AP)(i:Nat)(Z:Prop):Prop:=∀(p:Int)(h1:(s 0).g=.first (.until p))(h2:(s i).aS=p),Z
def oM (s i):=∀Z:Prop,oM.ZF s i Z->Z
theorem oM.mk:oM.ZF s i (oM s i):=λp h1 h2 _ Z=>Z p h1 h2
def Inv.ZF (a:A)(aN:List Int)(Z:Prop):Prop:=∀(aJ:∀i,i<24->i≠0->(a.ps i).g≠.free->rZ a.ps i) (p0:∀i,i<24->i≠0->(a.ps i).g≠.free->(a.ps 0).aS<(a.ps i).aS) (fr:∀i,i<24->(a.ps i).g=.free->(a.ps i).aJ=none) (gn:∀i j,i<24->j<24->(a.ps i).g≠.free->(a.ps j).g≠.free->(a.ps i).aS=(a.ps j).aS->i=j) (gH:∀i,i<24->(a.ps i).g≠.free->(a.ps i).aS<a.next) (qL:(a.fd.map (·.1)).Nodup) (nD:∀x,x∈a.fd->x.1<a.next/\∀i,i<24->(a.ps i).g≠.free->(a.ps i).aS≠x.1) (qV:∀x,x∈a.fd->x.2=0\/x.2=1\/x.2=7) (ch:∀i n,i<24->need (a.ps i).g=some n->qi a i=n) (nz:∀i j,i<24->j<24->(a.ps i).sl=true->(a.ps i).g≠.first .nil->(a.ps j).aJ=some i->∀r,(a.ps j).g≠.fP r) (b0:∀i r,i<24->i≠a.last->(a.ps i).g=.live r .B0->B9 a.ps a.last i) (line:∀i,i<24->i≠0->ln (a.ps i)=1->oM a.ps i) (qM:a.S ln=0) (qW:a.S kF=0) (hV:∀s,cI s (a.fd.map (·.2))+a.S (dl s)=cI s aN) (way:∀z,(a.ps 0).g=.first (.cN z)->0<=z/\z<3) (last:a.last<24),Z
def Inv (a aN):=∀Z:Prop,Inv.ZF a aN Z->Z
theorem Inv.mk:Inv.ZF a aN (Inv a aN):=λaJ p0 fr gn gH qL nD qV ch nz b0 line qM qW hV way last _ Z=>Z aJ p0 fr gn gH qL nD qV ch nz b0 line qM qW hV way last
def Inv.aJ (Z:Inv a aN):=Z _ λaJ p0 fr gn gH qL nD qV ch nz b0 line qM qW hV way last=>aJ
def Inv.p0 (Z:Inv a aN):=Z _ λaJ p0 fr gn gH qL nD qV ch nz b0 line qM qW hV way last=>p0
def Inv.fr (Z:Inv a aN):=Z _ λaJ p0 fr gn gH qL nD qV ch nz b0 line qM qW hV way last=>fr
def Inv.gn (Z:Inv a aN):=Z _ λaJ p0 fr gn gH qL nD qV ch nz b0 line qM qW hV way last=>gn
def Inv.gH (Z:Inv a aN):=Z _ λaJ p0 fr gn gH qL nD qV ch nz b0 line qM qW hV way last=>gH
def Inv.qL (Z:Inv a aN):=Z _ λaJ p0 fr gn gH qL nD qV ch nz b0 line qM qW hV way last=>qL
def Inv.nD (Z:Inv a aN):=Z _ λaJ p0 fr gn gH qL nD qV ch nz b0 line qM qW hV way last=>nD
def Inv.qV (Z:Inv a aN):=Z _ λaJ p0 fr gn gH qL nD qV ch nz b0 line qM qW hV way last=>qV
def Inv.ch (Z:Inv a aN):=Z _ λaJ p0 fr gn gH qL nD qV ch nz b0 line qM qW hV way last=>ch
def Inv.nz (Z:Inv a aN):=Z _ λaJ p0 fr gn gH qL nD qV ch nz b0 line qM qW hV way last=>nz
def Inv.b0 (Z:Inv a aN):=Z _ λaJ p0 fr gn gH qL nD qV ch nz b0 line qM qW hV way last=>b0
def Inv.line (Z:Inv a aN):=Z _ λaJ p0 fr gn gH qL nD qV ch nz b0 line qM qW hV way last=>line
def Inv.qM (Z:Inv a aN):=Z _ λaJ p0 fr gn gH qL nD qV ch nz b0 line qM qW hV way last=>qM
def Inv.qW (Z:Inv a aN):=Z _ λaJ p0 fr gn gH qL nD qV ch nz b0 line qM qW hV way last=>qW
def Inv.hV (Z:Inv a aN):=Z _ λaJ p0 fr gn gH qL nD qV ch nz b0 line qM qW hV way last=>hV
def Inv.way (Z:Inv a aN):=Z _ λaJ p0 fr gn gH qL nD qV ch nz b0 line qM qW hV way last=>way
def Inv.last (Z:Inv a aN):=Z _ λaJ p0 fr gn gH qL nD qV ch nz b0 line qM qW hV way last=>last
end
section
variable {a a':A}
theorem bg:(a.set i p).ps i=p:=if_pos rfl
theorem bu (h:j≠i):(a.set i p).ps j=a.ps j:=if_neg h
theorem ij (hi:i<24):(a.set i p).S f=a.S f+f p - f (a.ps i):=by
 unfold A.S;rw [mf (f:=λj=>f (a.ps j)) 24 hi (λj hj=>by rw [bu hj])];rw [bg]
end
section
theorem K9 (h:bR g'=bR g)(hr:fj g q Q):fj g' q Q:=(congrArg (TY q Q) h).mpr hr
theorem Ph (hi:i<24)(hp:p.aJ=(a.ps i).aJ):qi (a.set i p) q=qi a q:=by
 unfold qi;rw [ij hi,hp];simp+arith only
def Kp.ZF (o q:AP)(Z:Prop):Prop:=∀(aS:q.aS=o.aS)(aJ:q.aJ=o.aJ)(fr:q.g=.free->o.g=.free)(Mn:o.g=.free->q.g=.free)(role:bR q.g=bR o.g),Z
def Kp (o q):=∀Z:Prop,Kp.ZF o q Z->Z
theorem Kp.mk:Kp.ZF o q (Kp o q):=λaS aJ fr Mn role _ Z=>Z aS aJ fr Mn role
def Kp.aS (Z:Kp o q):=Z _ λaS aJ fr Mn role=>aS
def Kp.aJ (Z:Kp o q):=Z _ λaS aJ fr Mn role=>aJ
def Kp.fr (Z:Kp o q):=Z _ λaS aJ fr Mn role=>fr
def Kp.Mn (Z:Kp o q):=Z _ λaS aJ fr Mn role=>Mn
def Kp.role (Z:Kp o q):=Z _ λaS aJ fr Mn role=>role
theorem Kp.rfl':Kp o o:=(.mk rfl rfl id id rfl)
def mj.ZF (a a':A)(c:Nat)(Z:Prop):Prop:=∀(aJ:rZ a'.ps c)(p0:(a.ps 0).aS<(a'.ps c).aS)(Hr:∀j,j<24->j≠c->(a.ps j).g≠.free->(a.ps j).aS≠(a'.ps c).aS) (HW:(a'.ps c).aS<a'.next) (fd:∀x,x∈a'.fd->(a'.ps c).aS≠x.1) (b0:∀r,(a'.ps c).g=.live r .B0->B9 a'.ps a'.last c) (line:ln (a'.ps c)=1->oM a'.ps c),Z
def mj (a a' c):=∀Z:Prop,mj.ZF a a' c Z->Z
theorem mj.mk:mj.ZF a a' c (mj a a' c):=λaJ p0 Hr HW fd b0 line _ Z=>Z aJ p0 Hr HW fd b0 line
def mj.aJ (Z:mj a a' c):=Z _ λaJ p0 Hr HW fd b0 line=>aJ
def mj.p0 (Z:mj a a' c):=Z _ λaJ p0 Hr HW fd b0 line=>p0
def mj.Hr (Z:mj a a' c):=Z _ λaJ p0 Hr HW fd b0 line=>Hr
def mj.HW (Z:mj a a' c):=Z _ λaJ p0 Hr HW fd b0 line=>HW
def mj.fd (Z:mj a a' c):=Z _ λaJ p0 Hr HW fd b0 line=>fd
def mj.b0 (Z:mj a a' c):=Z _ λaJ p0 Hr HW fd b0 line=>b0
def mj.line (Z:mj a a' c):=Z _ λaJ p0 Hr HW fd b0 line=>line
def r0.ZF (a':A)(i c:Nat)(Z:Prop):Prop:=∀(fr:(a'.ps c).g=.free->(a'.ps c).aJ=none)(sl:(a'.ps c).sl=false)(aJ:∀q,(a'.ps c).aJ=some q->q=i) (need:∀n,need (a'.ps c).g=some n->qi a' c=n),Z
def r0 (a' i c):=∀Z:Prop,r0.ZF a' i c Z->Z
theorem r0.mk:r0.ZF a' i c (r0 a' i c):=λfr sl aJ need _ Z=>Z fr sl aJ need
def r0.fr (Z:r0 a' i c):=Z _ λfr sl aJ need=>fr
def r0.sl (Z:r0 a' i c):=Z _ λfr sl aJ need=>sl
def r0.aJ (Z:r0 a' i c):=Z _ λfr sl aJ need=>aJ
def r0.need (Z:r0 a' i c):=Z _ λfr sl aJ need=>need
theorem lt_eq {x y x' y':Int}(e1:x'=x)(e2:y'=y)(h:x<y):x'<y':=e1▸e2▸h
theorem Pj (h:p.g=.free):ln p≠1:=by unfold ln;rw [h];decide
theorem Inv.two (I:Inv a aN)(hi:i<24)(ir:c≠0)(ai:a'.ps i=p)(ne:∀j,j≠i->j≠c->a'.ps j=a.ps j) (K:Kp (a.ps i) p) (hg:(a.ps i).g≠.free) (hl:a'.last=a.last) (QW:a.next<=a'.next)
  (qc:∀j q,j<24->(a.ps j).aJ=some q->q<24->q≠c) (self:(a.ps i).aJ≠some i) (xe:∀j,j<24->j≠0->j≠c->(a.ps j).g≠.free->(a.ps j).aJ=some i->fj (a.ps j).g i (a.ps i)->fj (a.ps j).g i p)
  (hO:c<24->r0 a' i c) (hC:c<24->(a'.ps c).g≠.free->mj a a' c)
  (hn:∀q,qi a' q=qi a q+if i=q then n else 0) (need:∀m,need p.g=some m->qi a i+n=m)
  (qL:(a'.fd.map (·.1)).Nodup) (nD:∀x,x∈a'.fd->x.1<a'.next/\∀j,j<24->j≠c->(a.ps j).g≠.free->(a.ps j).aS≠x.1) (qV:∀x,x∈a'.fd->x.2=0\/x.2=1\/x.2=7)
  (z1:p.sl=true->p.g≠.first .nil->∀k,k<24->k≠i->(a'.ps k).aJ=some i->∀r,(a'.ps k).g≠.fP r) (z2:∀r,p.g=.fP r->∀k,k<24->(a.ps i).aJ=some k->(a.ps k).sl=true->(a.ps k).g=.first .nil)
  (pb:∀r,p.g=.live r .B0->(a.ps i).g=.live r .B0)
  (l0:i=0->∀j,j<24->j≠0->j≠c->ln (a.ps j)=1->∀q,(a.ps 0).g=.first (.until q)->(a.ps j).aS=q->p.g=.first (.until q))
  (pl:ln p=1->ln (a.ps i)=1) (qM:a'.S ln=0) (qW:a'.S kF=0) (hV:∀s,cI s (a'.fd.map (·.2))+a'.S (dl s)=cI s oK) (way:∀z,p.g=.first (.cN z)->i=0->0<=z/\z<3):Inv a' oK:=by
 have el:∀{M:Nat->AP->Prop},M i p->(∀j,j≠i->j≠c->M j (a.ps j))->∀j,j≠c->M j (a'.ps j):=λ{M} h1 h2 j h=>by
  by_cases e:j=i
  ·rw [e,ai];exact h1
  ·simp only [ne j e h];exact h2 j e h
 have ec:∀{M:Nat->AP->Prop},M c (a'.ps c)->(∀j,j≠c->M j (a'.ps j))->∀j,M j (a'.ps j):=λ{M} h1 h2 j=>by
  by_cases e:j=c
  ·refine (e)▸?_;exact h1
  ·exact h2 j e
 have kp:∀j,j≠c->Kp (a.ps j) (a'.ps j):=el (M:=λj q=>Kp (a.ps j) q) K λj Z Z=>Kp.rfl';have fr:∀j,j≠c->(a'.ps j).g≠.free->(a.ps j).g≠.free:=λj h hf e=>hf ((kp j h).Mn e);have aJ:∀j,j<24->j≠0->(a'.ps j).g≠.free->rZ a'.ps j:=ec (M:=λj q=>j<24->j≠0->q.g≠.free->rZ a'.ps j) (λh Z h2=>(hC h h2).aJ) λj e hj iq hf=>by
  refine (I.aJ j hj iq (fr j e hf)) _ λq h1 h2 h3 h4 h5=>?_;have hq:=qc j q hj h1 h2;exact (.mk q ((kp j e).aJ.trans h1) h2 (lt_eq (kp q hq).aS (kp j e).aS h3) (λh=>h4 ((kp q hq).fr h)) (K9 (kp j e).role (el (M:=λq Q=>(a.ps j).aJ=some q->fj (a.ps j).g q (a.ps q)->fj (a.ps j).g q Q) (xe j hj iq e (fr j e hf)) (λq Z Z Z h=>h) q hq h1 h5)))
 have gn:∀j k,j<24->k<24->(a'.ps j).g≠.free->(a'.ps k).g≠.free->(a'.ps j).aS=(a'.ps k).aS->j=k:=ec (M:=λj q=>∀k,j<24->k<24->q.g≠.free->(a'.ps k).g≠.free->q.aS=(a'.ps k).aS->j=k)
  (ec (M:=λk q=>c<24->k<24->(a'.ps c).g≠.free->q.g≠.free->(a'.ps c).aS=q.aS->c=k) (λZ Z Z Z Z=>rfl) λk e hj hk Fv Pk he=>absurd (he.trans (kp k e).aS).symm ((hC hj Fv).Hr k hk e (fr k e Pk)))
  λj e=>ec (M:=λk q=>j<24->k<24->(a'.ps j).g≠.free->q.g≠.free->(a'.ps j).aS=q.aS->j=k) (λhj hk Fv Pk he=>absurd ((kp j e).aS.symm.trans he) ((hC hk Pk).Hr j hj e (fr j e Fv)))
   λk e' hj hk Fv Pk he=>I.gn j k hj hk (fr j e Fv) (fr k e' Pk) ((kp j e).aS.symm.trans (he.trans (kp k e').aS))
 have ch:∀j m,j<24->Internal.need (a'.ps j).g=some m->qi a' j=m:=ec (M:=λj q=>∀m,j<24->Internal.need q.g=some m->qi a' j=m) (λm h h2=>(hO h).need m h2)
  λj e m hj hm=>(hn j).trans (el (M:=λj q=>Internal.need q.g=some m->j<24->qi a j+(if i=j then n else 0)=m) (λh Z=>(congrArg _ (if_pos rfl)).trans (need m h)) (λj h Z hm hj=>(congrArg _ (if_neg (Ne.symm h))).trans ((Int.add_zero _).trans (I.ch j m hj hm))) j e hm hj)
 have nz2:∀k,k<24->∀r,(a'.ps k).g=.fP r->∀j,j<24->j≠i->j≠c->(a.ps j).sl=true->(a.ps j).g≠.first .nil->(a'.ps k).aJ=some j->False:=ec (M:=λk q=>k<24->∀r,q.g=.fP r->∀j,j<24->j≠i->j≠c->(a.ps j).sl=true->(a.ps j).g≠.first .nil->q.aJ=some j->False)
  (λh r Z j Z ei Z Z Z hp=>ei ((hO h).aJ j hp)) λk e hk r hz j hj ei ej hs hf hp=>el (M:=λk q=>k<24->q.g=.fP r->(a.ps k).aJ=some j->False) (λZ hz hp=>hf (z2 r hz j hj hp hs)) (λk Z Z hk hz hp=>I.nz j k hj hk hs hf hp r hz) k e hk hz ((kp k e).aJ.symm.trans hp)
 have nz:∀j k,j<24->k<24->(a'.ps j).sl=true->(a'.ps j).g≠.first .nil->(a'.ps k).aJ=some j->∀r,(a'.ps k).g≠.fP r:=ec (M:=λj q=>∀k,j<24->k<24->q.sl=true->q.g≠.first .nil->(a'.ps k).aJ=some j->∀r,(a'.ps k).g≠.fP r)
  (λk h Z hs=>absurd ((hO h).sl.symm.trans hs) Bool.false_ne_true) λj e k hj hk hs hf hp r hz=>el (M:=λj q=>j<24->q.sl=true->q.g≠.first .nil->(a'.ps k).aJ=some j->False)
   (λZ hs hf hp=>Or.elim (Classical.em (k=i)) (λek=>self (K.aJ.symm.trans ((congrArg AP.aJ ai).symm.trans (ek▸hp)))) λek=>z1 hs hf k hk ek hp r hz) (λj ei ej hj hs hf hp=>nz2 k hk r hz j hj ei ej hs hf hp) j e hj hs hf hp
 exact (.mk aJ (ec (M:=λj q=>j<24->j≠0->q.g≠.free->(a'.ps 0).aS<q.aS) (λh Z h2=>lt_eq ((kp 0 ir.symm).aS) rfl (hC h h2).p0) λj e hj iq hf=>lt_eq ((kp 0 ir.symm).aS) (kp j e).aS (I.p0 j hj iq (fr j e hf)))
  (ec (M:=λj q=>j<24->q.g=.free->q.aJ=none) (λh h2=>(hO h).fr h2) λj e hj hf=>(kp j e).aJ.trans (I.fr j hj ((kp j e).fr hf))) gn
  (ec (M:=λj q=>j<24->q.g≠.free->q.aS<a'.next) (λh h2=>(hC h h2).HW) λj e hj hf=>Int.lt_of_lt_of_le (lt_eq (kp j e).aS rfl (I.gH j hj (fr j e hf))) QW) qL
  (λx hx=>⟨(nD x hx).1,ec (M:=λj q=>j<24->q.g≠.free->q.aS≠x.1) (λh h2=>(hC h h2).fd x hx) λj e hj hf h=>(nD x hx).2 j hj e (fr j e hf) ((kp j e).aS.symm.trans h)⟩) qV ch nz
  (ec (M:=λj q=>∀r,j<24->j≠a'.last->q.g=.live r .B0->B9 a'.ps a'.last j) (λr h Z hb=>(hC h (hb▸eD rfl)).b0 r hb) λj e r hj Xy hb=>by
   refine (I.b0 j r hj (hl▸Xy) (el (M:=λj q=>q.g=.live r .B0->(a.ps j).g=.live r .B0) (pb r) (λj Z Z h=>h) j e hb)) _ λq h1 h2 h3=>?_;exact (.mk q ((kp j e).aJ.trans h1) h2 (hl.symm▸h3)))
  (ec (M:=λj q=>j<24->j≠0->ln q=1->oM a'.ps j) (λh Z h2=>(hC h λh=>Pj h h2).line h2) λj e hj iq tT=>by
   have h2:=el (M:=λj q=>ln q=1->ln (a.ps j)=1) pl (λj Z Z h=>h) j e tT;refine (I.line j hj iq h2) _ λq h3 h4=>?_;exact (.mk q (el (M:=λx Q=>x=0->Q.g=.first (.until q)) (λh=>l0 h j hj iq e h2 q h3 h4) (λx Z Z h=>h▸h3) 0 ir.symm rfl) ((kp j e).aS.trans h4)))
  qM qW hV (λz=>el (M:=λx Q=>x=0->Q.g=.first (.cN z)->0<=z/\z<3) (λh hz=>way z hz h) (λx Z Z h hz=>I.way z (h▸hz)) 0 ir.symm rfl) (hl▸I.last))
noncomputable def lnO:Option Rl->Int
 |some r=>qK r
 |none=>0
theorem Xz (h:lnO (bR q.g)=1):ln q=1:=by
 unfold ln;revert h;induction q.g<;>intro h<;>first|exact h|cases h
theorem XA (hl:ln p=1):lnO (bR p.g)=1:=by
 unfold ln at hl;revert hl;induction p.g with
 |first s=>induction s<;>nofun
 |_=>exact id
theorem Fw (h:bR p.g=bR q.g)(hl:ln p=1):ln q=1:=Xz (h▸XA hl)
theorem Fx {x y z:Int}(h:x=0)(e:y=z):x+y - z=0:=by simp only [h,e,Int.zero_add,Int.sub_self]
theorem T2 {f s x y d d':Int}(h:f+s=d)(e:x+d=y+d'):f+(s+x - y)=d':=by grind only
theorem Inv.w5 {oK:List Int}(I:Inv a aN)(hi:i<24)(eI:p.aS=(a.ps i).aS)(ky:p.aJ=(a.ps i).aJ)(hg:(a.ps i).g≠.free)(Cv:p.g≠.free)(oN:bR p.g=bR (a.ps i).g)
  (zJ:∀j,j<24->j≠0->(a.ps j).g≠.free->(a.ps j).aJ=some i->fj (a.ps j).g i (a.ps i)->fj (a.ps j).g i p)
  (r4:∀n,need p.g=some n->qi a i=n)
  (UP:p.sl=true->p.g≠.first .nil->∀j,j<24->(a.ps j).aJ=some i->∀r,(a.ps j).g≠.fP r)
  (MQ:∀r,p.g=.fP r->∀k,k<24->(a.ps i).aJ=some k->(a.ps k).sl=true->(a.ps k).g=.first .nil)
  (oE:(a.ps i).aJ≠some i)
  (NF:∀r,p.g=.live r .B0->(a.ps i).g=.live r .B0)
  (La:∀q,(a.ps 0).g=.first (.until q)->i=0->p.g=.first (.until q))
  (tT:ln p=ln (a.ps i)) (Pl:kF p=kF (a.ps i)) (FY:∀s,dl s p+cI s aN=dl s (a.ps i)+cI s oK) (zK:∀z,p.g=.first (.cN z)->i=0->0<=z/\z<3):Inv (a.set i p) oK:=by
 have ne:∀j,j≠i->j≠24->(a.set i p).ps j=a.ps j:=λj h Z=>bu h;have no:∀{P:Prop},24<24->P:=λh=>absurd h (Nat.lt_irrefl _);exact I.two (c:=24) (n:=0) hi (Nat.succ_ne_zero _) bg ne (.mk eI ky (λh=>absurd h Cv) (λh=>absurd h hg) oN) hg rfl (Int.le_refl _) (λj q hj h h2 e=>no (e▸h2)) oE (λj h1 h2 Z=>zJ j h1 h2) no no
  (λq=>(Ph hi ky).trans (by simp only [ite_self,Int.add_zero])) (λm h=>(Int.add_zero _).trans (r4 m h)) I.qL (λx hx=>⟨(I.nD x hx).1,λj h Z=>(I.nD x hx).2 j h⟩) I.qV
  (λh1 h2 k hk hki hp=>by rw [bu hki] at hp ⊢;exact UP h1 h2 k hk hp) MQ NF (λh j Z zz' zz2 zz3 q h3 zz4=>La q h3 h) (λh=>tT▸h)
  ((ij hi).trans (Fx I.qM tT)) ((ij hi).trans (Fx I.qW Pl)) (λs=>(congrArg _ (ij hi)).trans (T2 (I.hV s) (FY s))) zK
theorem Inv.upd (I:Inv a aN)(hi:i<24)(eI:p.aS=(a.ps i).aS)(ky:p.aJ=(a.ps i).aJ)(hg:(a.ps i).g≠.free)(Cv:p.g≠.free)(oN:bR p.g=bR (a.ps i).g)
  (zJ:∀j,j<24->j≠0->(a.ps j).g≠.free->(a.ps j).aJ=some i->fj (a.ps j).g i (a.ps i)->fj (a.ps j).g i p)
  (r4:∀n,need p.g=some n->qi a i=n)
  (UP:p.sl=true->p.g≠.first .nil->∀j,j<24->(a.ps j).aJ=some i->∀r,(a.ps j).g≠.fP r)
  (MQ:∀r,p.g=.fP r->∀k,k<24->(a.ps i).aJ=some k->(a.ps k).sl=true->(a.ps k).g=.first .nil)
  (oE:(a.ps i).aJ≠some i)
  (NF:∀r,p.g=.live r .B0->(a.ps i).g=.live r .B0)
  (La:∀q,(a.ps 0).g=.first (.until q)->i=0->p.g=.first (.until q))
  (tT:ln p=ln (a.ps i)) (Pl:kF p=kF (a.ps i)) (FY:∀s,dl s p=dl s (a.ps i)) (zK:∀z,p.g=.first (.cN z)->i=0->(a.ps 0).g=.first (.cN z)):Inv (a.set i p) aN:=
 Inv.w5 I hi eI ky hg Cv oN zJ r4 UP MQ oE NF La tT Pl (λs=>congrArg (·+cI s aN) (FY s)) λz h e=>I.way z (zK z h e)
end
noncomputable def kG:AP:=⟨.free,false,0,none⟩
noncomputable def A.spawn (a:A)(i c:Nat)(p:AP)(g:Gh):A:={(a.set c ⟨g,false,a.next,some i⟩).set i p with next:=a.next+1}
noncomputable def A.mW (a:A)(i c:Nat)(p:AP)(fd:List (Int×Int)):A:={(a.set c kG).set i p with fd:=fd}
section
variable {a a':A}{i j c:Nat}
theorem gB:(a.spawn i c p g).ps i=p:=bg
theorem mX (h:c≠i):(a.spawn i c p g).ps c=⟨g,false,a.next,some i⟩:=(bu h).trans bg
theorem gp (h:j≠i)(h':j≠c):(a.spawn i c p g).ps j=a.ps j:=(bu h).trans (bu h')
theorem Fy {s q o x y:Int}:s+q - o+x - y=s+x - y+q - o:=by simp+arith only
theorem r5 {s x y q o:Int}(h:s=0)(h2:x+q=y+o):s+x - y+q - o=0:=by grind only
theorem Pm {f s x y q o d d':Int}(h:f+s=d)(h2:x+q+d=y+d')(h0:o=0):f+(s+x - y+q - o)=d':=by grind only
theorem Pn (h:t=if i=q then 1 else 0)(h0:u=0)(y:Int):x+y - y+t - u=x+if i=q then 1 else 0:=by rw [Int.add_sub_cancel,h,h0,Int.sub_zero]
theorem T3 (h:t=if i=q then 1 else 0)(h0:u=0)(y:Int):x+y - y+u - t=x+if i=q then -1 else 0:=by simp only [Int.add_sub_cancel,h,h0,Int.add_zero];by_cases e:i=q;rw [if_pos e,if_pos e];rfl;rw [if_neg e,if_neg e];rfl
theorem Fz:(if (some i:Option Nat)=some q then (1:Int) else 0)=if i=q then 1 else 0:=by
 by_cases e:i=q
 ·rw [if_pos e,if_pos (congrArg some e)]
 ·rw [if_neg e,if_neg (λh=>e (Option.some.inj h))]
theorem lb (hi:i<24)(hc:c<24)(h:c≠i):(a.spawn i c p g).S f=a.S f+f p - f (a.ps i)+f ⟨g,false,a.next,some i⟩ - f (a.ps c):=by
 have:(a.spawn i c p g).S f=((a.set c ⟨g,false,a.next,some i⟩).set i p).S f:=rfl;rw [this,ij hi,ij hc,bu (Ne.symm h)];exact Fy
theorem th:(a.mW i c p fd).ps i=p:=bg
theorem Lb (h:c≠i):(a.mW i c p fd).ps c=kG:=(bu h).trans bg
theorem r6 (h:j≠i)(h':j≠c):(a.mW i c p fd).ps j=a.ps j:=(bu h).trans (bu h')
theorem v7 {fd}(hi:i<24)(hc:c<24)(h:c≠i):(a.mW i c p fd).S f=a.S f+f p - f (a.ps i)+f kG - f (a.ps c):=by
 have:(a.mW i c p fd).S f=((a.set c kG).set i p).S f:=rfl;rw [this,ij hi,ij hc,bu (Ne.symm h)];exact Fy
theorem Inv.DU (I:Inv a aN)(hc:c<24)(h:need (a.ps c).g=some 0)(hj:j<24):(a.ps j).aJ≠some c:=λe=>by
 have h2:(1:Int)<=qi a c:=by
  have:=rT (f:=λj=>if (a.ps j).aJ=some c then 1 else 0) 24 hj (λx Z=>by split<;>decide);simp only [(if_pos e:(if (a.ps j).aJ=some c then (1:Int) else 0)=1)] at this;exact this
 simp only [(I.ch c 0 hc h:qi a c=0)] at h2;exact absurd h2 (by decide)
theorem Inv.Lc {oK:List Int}(I:Inv a aN)(hi:i<24)(hc:c<24)(fG:c≠i)(ir:c≠0)(iO:(a.ps c).g=.free)(eI:p.aS=(a.ps i).aS)(ky:p.aJ=(a.ps i).aJ)(hg:(a.ps i).g≠.free)(Cv:p.g≠.free)(oN:bR p.g=bR (a.ps i).g)(vJ:p.sl=true->p.g=.first .nil)
  (zJ:∀j,j<24->j≠0->(a.ps j).g≠.free->(a.ps j).aJ=some i->fj (a.ps j).g i (a.ps i)->fj (a.ps j).g i p) (oE:(a.ps i).aJ≠some i)
  (r4:∀n,need p.g=some n->qi a i+1=n) (Mo:g≠.free) (hgn:∀n,need g=some n->n=0) (Ca:fj g i p) (QX:∀r,p.g≠.fP r)
  (NF:∀r,g=.live r .B0->i≠0/\nB a.last c<nB a.last i) (Po:∀r,p.g≠.live r .B0)
  (La:i=0->∀q,(a.ps 0).g≠.first (.until q)) (Qt:∀b n o,ln ⟨g,b,n,o⟩=1->i=0/\p.g=.first (.until a.next))
  (tT:ln p+ln ⟨g,false,a.next,some i⟩=ln (a.ps i)) (Pl:kF p+kF ⟨g,false,a.next,some i⟩=kF (a.ps i)) (FY:∀s,dl s p+dl s ⟨g,false,a.next,some i⟩+cI s aN=dl s (a.ps i)+cI s oK)
  (zK:∀z,p.g=.first (.cN z)->False):Inv (a.spawn i c p g) oK:=by
 have ec:(a.spawn i c p g).ps c=⟨g,false,a.next,some i⟩:=mX fG;have ei:(a.spawn i c p g).ps i=p:=gB;have hn:∀q,qi (a.spawn i c p g) q=qi a q+if i=q then 1 else 0:=λq=>
  (lb hi hc fG).trans ((congrArg (λo=>a.S _+(if o=some q then 1 else 0) - _+_ - _) ky).trans (Pn Fz (if_neg (I.fr c hc iO▸(ip rfl))) _))
 refine I.two (n:=1) hi ir gB (λj=>gp) (.mk eI ky (λh=>absurd h Cv) (λh=>absurd h hg) oN) hg rfl (Int.le_of_lt (Int.lt_succ _)) (λj q hj h Z e=>(λj hj=>I.DU hc (by rw [iO];rfl) hj:∀j,j<24->(a.ps j).aJ≠some c) j hj (e▸h)) oE (λj h1 h2 Z=>zJ j h1 h2)
  (λZ=>(.mk (λh=>absurd ((congrArg AP.g ec).symm.trans h) Mo) (ec▸rfl) (λq h=>by rw [ec] at h;exact (Option.some.inj h).symm) (λm h=>?_))) (λZ zz'=>(.mk (.mk i (ec▸rfl) hi (lt_eq ((congrArg AP.aS ei).trans eI) (congrArg AP.aS ec) (I.gH i hi hg)) (ei.symm▸Cv) ?_) ?_ (λj h1 h2 h3=>ec.symm▸Int.ne_of_lt (I.gH j h1 h3)) (ec.symm▸Int.lt_succ _) (λx hx=>ec.symm▸(Int.ne_of_lt (I.nD x hx).1).symm) (λr h=>?_) (λh=>?_)))
  hn r4 I.qL (λx hx=>⟨Int.lt_trans (I.nD x hx).1 (Int.lt_succ _),λj h Z=>(I.nD x hx).2 j h⟩) I.qV (λh h2=>absurd (vJ h) h2) (λr h=>absurd h (QX r)) (λr h=>absurd h (Po r))
  (λh0 Ym zz2 zz3 zz4 zz5 q h=>absurd h (La h0 q)) (Fw oN) ?_ ?_ (λs=>?_) (λz h=>absurd h (zK z))
 ·rw [ec] at h;exact (hn c).trans ((congrArg _ (if_neg (Ne.symm fG))).trans ((Int.add_zero _).trans ((I.ch c 0 hc (by rw [iO];rfl)).trans (hgn m h).symm)))
 ·simp only [ec,ei];exact Ca
 ·refine (ec)▸?_
  by_cases e0:i=0
  ·exact e0▸I.gH i hi hg
  ·exact Int.lt_trans (I.p0 i hi e0 hg) (I.gH i hi hg)
 ·rw [ec] at h
  exact (.mk i (ec▸rfl) ((NF r h).1) ((NF r h).2))
 ·rw [ec] at h
  refine cX (Qt _ _ _ h) λh1 h2=>?_;exact (.mk a.next (by simp only [<- h1,ei];exact h2) (ec▸rfl))
 ·exact (lb hi hc fG).trans (r5 I.qM (tT.trans (by unfold ln;refine (iO)▸?_;exact (Int.add_zero _).symm)))
 ·exact (lb hi hc fG).trans (r5 I.qW (Pl.trans (by unfold kF;refine (iO)▸?_;exact (Int.add_zero _).symm)))
 ·exact (congrArg _ (lb hi hc fG)).trans (Pm (I.hV s) (FY s) (by unfold dl;refine (iO)▸?_;rfl))
theorem Inv.spawn (I:Inv a aN)(hi:i<24)(hc:c<24)(fG:c≠i)(ir:c≠0)(iO:(a.ps c).g=.free)(eI:p.aS=(a.ps i).aS)(ky:p.aJ=(a.ps i).aJ)(hg:(a.ps i).g≠.free)(Cv:p.g≠.free)(oN:bR p.g=bR (a.ps i).g)(vJ:p.sl=false)
  (zJ:∀j,j<24->j≠0->(a.ps j).g≠.free->(a.ps j).aJ=some i->fj (a.ps j).g i (a.ps i)->fj (a.ps j).g i p) (oE:(a.ps i).aJ≠some i)
  (r4:∀n,need p.g=some n->qi a i+1=n) (Mo:g≠.free) (hgz:∀r,g≠.fP r) (hgn:∀n,need g=some n->n=0) (Ca:fj g i p) (QX:∀r,p.g≠.fP r)
  (NF:∀r,g=.live r .B0->i≠0/\nB a.last c<nB a.last i) (Po:∀r,p.g≠.live r .B0)
  (La:i=0->∀q,(a.ps 0).g≠.first (.until q)) (Qt:∀b n o,ln ⟨g,b,n,o⟩=1->i=0/\p.g=.first (.until a.next))
  (tT:ln p+ln ⟨g,false,a.next,some i⟩=ln (a.ps i)) (Pl:kF p+kF ⟨g,false,a.next,some i⟩=kF (a.ps i)) (FY:∀s,dl s p+dl s ⟨g,false,a.next,some i⟩=dl s (a.ps i))
  (zK:∀z,p.g=.first (.cN z)->False):Inv (a.spawn i c p g) aN:=
 Inv.Lc I hi hc fG ir iO eI ky hg Cv oN (λh=>by rw [vJ] at h;exact absurd h Bool.false_ne_true) zJ oE r4 Mo hgn Ca QX NF Po La Qt tT Pl (λs=>congrArg (·+cI s aN) (FY s)) zK
end
section
theorem Pp {f f' s x y o:Int}(h:f+s=d)(h2:f'+x=f+y+o)(h0:dl z kG=0):f'+(s+x - y+dl z kG - o)=d:=by grind only
theorem Inv.mW (I:Inv a aN)(hi:i<24)(hc:c<24)(fG:c≠i)(ir:c≠0)(hcz:(a.ps c).g=.fP rc)(HX:(a.ps c).aJ=some i)(eI:p.aS=(a.ps i).aS)(ky:p.aJ=(a.ps i).aJ)(hg:(a.ps i).g≠.free)(Cv:p.g≠.free)(oN:bR p.g=bR (a.ps i).g)(vJ:p.sl=false)
  (zJ:∀j,j<24->j≠0->j≠c->(a.ps j).g≠.free->(a.ps j).aJ=some i->fj (a.ps j).g i (a.ps i)->fj (a.ps j).g i p) (oE:(a.ps i).aJ≠some i)
  (r4:∀n,need p.g=some n->qi a i - 1=n) (QX:∀r,p.g≠.fP r) (Po:∀r,p.g≠.live r .B0)
  (vX:fd=a.fd\/(fd=a.fd++[((a.ps c).aS,vY rc)]))
  (La:i=0->∀j,j<24->j≠0->j≠c->ln (a.ps j)=1->∀q,(a.ps 0).g=.first (.until q)->(a.ps j).aS=q->p.g=.first (.until q))
  (tT:ln p=ln (a.ps i)+ln (a.ps c)) (Pl:kF p=kF (a.ps i)+kF (a.ps c)) (FY:∀s,cI s (fd.map (·.2))+dl s p=cI s (a.fd.map (·.2))+dl s (a.ps i)+dl s (a.ps c))
  (zK:∀z,p.g=.first (.cN z)->False):Inv (a.mW i c p fd) aN:=by
 have iO:(a.ps c).g≠.free:=hcz▸(eD rfl);have ec:(a.mW i c p fd).ps c=kG:=Lb fG;have hn:∀q,qi (a.mW i c p fd) q=qi a q+if i=q then -1 else 0:=λq=>
  (v7 hi hc fG).trans ((congrArg (λo=>a.S _+(if o=some q then 1 else 0) - _+_ - _) ky).trans (T3 (HX▸Fz) (if_neg (ip rfl)) _))
 have fdm:∀{P:Int×Int->Prop},(∀x,x∈a.fd->P x)->P ((a.ps c).aS,vY rc)->∀x,x∈fd->P x:=λh h2 x hx=>by
  rcases vX with rfl|rfl
  ·exact h x hx
  ·rcases List.mem_append.mp hx with h3|h3
   ·exact h x h3
   ·exact (List.mem_singleton.mp h3)▸h2
 refine I.two (n:=-1) hi ir th (λj=>r6) (.mk eI ky (λh=>absurd h Cv) (λh=>absurd h hg) oN) hg rfl (Int.le_refl _) (λj q hj h Z e=>(λj hj=>I.DU hc (by rw [hcz];rfl) hj:∀j,j<24->(a.ps j).aJ≠some c) j hj (e▸h)) oE zJ
  (λZ=>(.mk (λZ=>ec▸rfl) (ec▸rfl) (λq h=>absurd ((congrArg AP.aJ ec).symm.trans h) (ip rfl)) (λm h=>?_))) (λZ h=>absurd (congrArg AP.g ec) h)
  hn r4 ?_ (fdm (P:=λx=>x.1<a.next/\∀j,j<24->j≠c->(a.ps j).g≠.free->(a.ps j).aS≠x.1) (λx hx=>⟨(I.nD x hx).1,λj h Z=>(I.nD x hx).2 j h⟩) ⟨I.gH c hc iO,λj h1 h2 h3 e=>h2 (I.gn j c h1 hc h3 iO e)⟩)
  (fdm (P:=λx=>x.2=0\/x.2=1\/x.2=7) I.qV (by induction rc<;>first|exact .inl rfl|exact .inr (.inl rfl)|exact .inr (.inr rfl))) (λh=>absurd (vJ.symm.trans h) (IG rfl)) (λr h=>absurd h (QX r)) (λr h=>absurd h (Po r)) La (Fw oN)
  ((v7 hi hc fG).trans (r5 I.qM ((Int.add_zero _).trans tT))) ((v7 hi hc fG).trans (r5 I.qW ((Int.add_zero _).trans Pl))) (λs=>(congrArg _ (v7 hi hc fG)).trans (Pp (I.hV s) (FY s) rfl)) (λz h=>absurd h (zK z))
 ·replace h:=(ec)▸h;cases h;exact (hn c).trans ((congrArg _ (if_neg (Ne.symm fG))).trans ((Int.add_zero _).trans (I.ch c 0 hc (by rw [hcz];rfl))))
 ·refine (?_:(fd.map (·.1)).Nodup)
  rcases vX with rfl|rfl
  ·exact I.qL
  ·rw [List.map_append]
   refine List.nodup_append.mpr ⟨I.qL,List.pairwise_singleton _ _,λx hx y hy=>?_⟩;refine aQ (List.mem_map.mp hx) λz hz dp=>?_;subst dp;simp only [List.mem_singleton.mp hy];exact Ne.symm ((I.nD z hz).2 c hc iO)
end
noncomputable def jL (p:AP)(o:Option Nat):AP:={p with aJ:=o}
section
theorem Ld (e:Q'.g=Q.g)(h:fj g q Q):fj g q Q':=by
 revert h;unfold fj
 induction bR g with
 |none=>exact id
 |some r=>exact (congrArg (Pe r q) e).mpr
def Sm.ZF (o q:AP)(Z:Prop):Prop:=∀(g:q.g=o.g)(sl:q.sl=o.sl)(aS:q.aS=o.aS),Z
def Sm (o q):=∀Z:Prop,Sm.ZF o q Z->Z
theorem Sm.mk:Sm.ZF o q (Sm o q):=λg sl aS _ Z=>Z g sl aS
def Sm.gg (Z:Sm o q):=Z _ λg sl aS=>g
def Sm.sl (Z:Sm o q):=Z _ λg sl aS=>sl
def Sm.aS (Z:Sm o q):=Z _ λg sl aS=>aS
theorem Inv.sm (I:Inv a aN)(s:∀k,Sm (a.ps k) (a'.ps k)) (iq:j≠0) (ne:∀k,k≠j->(a'.ps k).aJ=(a.ps k).aJ) (pj:(a'.ps j).aJ=some 0) (hp:(a.ps j).aJ=some i) (Fv:(a.ps j).g≠.free) (hr:fj (a.ps j).g 0 (a'.ps 0)) (UQ:need (a.ps i).g=none) (hn0:need (a.ps 0).g=none)
  (h0f:(a.ps 0).g≠.free) (hl:a'.last=a.last) (QW:a'.next=a.next) (vX:a'.fd=a.fd) (DV:∀k,k≠i->k≠0->qi a' k=qi a k) (hS:∀f:AP->Int,(∀p q:AP,p.g=q.g->f p=f q)->a'.S f=a.S f)
  (Ek:∀r,(a.ps j).g≠.live r .B0) (hz:∀r,(a.ps j).g=.fP r->(a.ps 0).sl=true->(a.ps 0).g=.first .nil):Inv a' aN:=by
 have fr:∀k,(a'.ps k).g≠.free->(a.ps k).g≠.free:=λk h e=>h ((s k).gg.trans e);refine (.mk (λk hk qT hf=>?_) (λk hk qT hf=>lt_eq (s 0).aS (s k).aS (I.p0 k hk qT (fr k hf))) (λk hk hf=>?_) (λk l hk hl Pk KV he=>I.gn k l hk hl (fr k Pk) (fr l KV) ((s k).aS.symm.trans (he.trans (s l).aS))) (λk hk hf=>lt_eq (s k).aS QW (I.gH k hk (fr k hf))) (vX▸I.qL)
  (λx hx=>⟨QW▸(I.nD x (vX▸hx)).1,λk hk hf=>(s k).aS▸(I.nD x (vX▸hx)).2 k hk (fr k hf)⟩) (vX▸I.qV) (λk n hk hn=>?_) (λk l hk hl U2 Pk hlp r e=>?_) (λk r hk hkl hb=>?_) (λk hk qT tT=>?_)
  ((hS ln λp q h=>by unfold ln;rw [h]).trans I.qM) ((hS kF λp q h=>by unfold kF;rw [h]).trans I.qW) (λz=>?_) (λz e=>I.way z ((s 0).gg.symm.trans e)) (hl▸I.last))
 ·by_cases e:k=j
  ·exact e▸(.mk 0 pj (by decide) (lt_eq (s 0).aS (s j).aS (I.p0 j (e▸hk) iq Fv)) (λh=>h0f ((s 0).gg.symm.trans h)) ((s j).gg.symm▸hr))
  ·refine (I.aJ k hk qT (fr k hf)) _ λq h1 h2 h3 h4 h5=>?_
   exact (.mk q ((ne k e).trans h1) h2 (lt_eq (s q).aS (s k).aS h3) (λh=>h4 ((s q).gg.symm.trans h)) ((s k).gg.symm▸Ld (s q).gg h5))
 ·have UM:=(s k).gg.symm.trans hf
  exact (ne k λe=>Fv (e▸UM)).trans (I.fr k hk UM)
 ·have uc:=(congrArg need (s k).gg).symm.trans hn
  exact (DV k (λe=>by rw [e,UQ] at uc;injection uc) λe=>by rw [e,hn0] at uc;injection uc).trans (I.ch k n hk uc)
 ·have ks:=(s k).sl.symm.trans U2
  have kf:=λh=>Pk ((s k).gg.trans h);by_cases el:l=j
  ·exact kf (((Option.some.inj (pj.symm.trans (el▸hlp))).symm:k=0)▸hz r (el▸((s l).gg.symm.trans e)) (((Option.some.inj (pj.symm.trans (el▸hlp))).symm:k=0)▸ks))
  ·exact I.nz k l hk hl ks kf ((ne l el).symm.trans hlp) r ((s l).gg.symm.trans e)
 ·have UC:=(s k).gg.symm.trans hb
  refine (I.b0 k r hk (hl▸hkl) UC) _ λq h1 h2 h3=>?_;exact (.mk q ((ne k λe=>Ek r (e▸UC)).trans h1) h2 (hl.symm▸h3))
 ·refine (I.line k hk qT (((by unfold ln;rw [(s k).gg]:ln (a'.ps k)=ln (a.ps k))).symm.trans tT)) _ λq h1 h2=>?_
  exact (.mk q ((s 0).gg.trans h1) ((s k).aS.trans h2))
 ·refine (vX)▸(hS (dl z) λp q h=>by unfold dl;rw [h])▸?_;exact I.hV z
theorem Inv.adopt (I:Inv a aN)(hj:j<24)(iq:j≠0)(hi:i<24)(dk:i≠0)(hp:(a.ps j).aJ=some i)(Fv:(a.ps j).g≠.free)(hr:bR (a.ps j).g=some .r\/bR (a.ps j).g=some .b)(UQ:need (a.ps i).g=none)
  (hf:∃s,(a.ps 0).g=.first s) (Ek:∀r,(a.ps j).g≠.live r .B0) (hz:∀r,(a.ps j).g=.fP r->(a.ps 0).sl=true->(a.ps 0).g=.first .nil):Inv (a.set j (jL (a.ps j) (some 0))) aN:=by
 obtain ⟨s0,hs0⟩:=hf;refine I.sm (a':=a.set j (jL (a.ps j) (some 0))) (λk=>?_) iq (λk e=>congrArg AP.aJ (bu e)) (congrArg AP.aJ bg) hp Fv ?_ UQ (by refine (hs0)▸?_;rfl) (by refine (hs0)▸?_;exact eD rfl) rfl rfl rfl (λk h1 h2=>?_) (λf h=>(ij hj).trans ?_) Ek hz
 ·by_cases e:k=j
  ·refine e▸?_;exact (.mk ((congrArg AP.g bg).trans rfl) ((congrArg AP.sl bg).trans rfl) ((congrArg AP.aS bg).trans rfl))
  ·rw [bu e];exact (.mk rfl rfl rfl)
 ·unfold fj;rcases hr with h|h<;>simp only [h]<;>exact .z rfl rfl
 ·exact (ij hj).trans ((congr (congrArg (λx y=>a.S _+x - y) (if_neg λe=>h2 (Option.some.inj e).symm)) (if_neg λe=>h1 (Option.some.inj (hp.symm.trans e)).symm)).trans ((Int.sub_zero _).trans (Int.add_zero _)))
 ·refine (h (jL (a.ps j) (some 0)) (a.ps j) rfl)▸?_;exact Int.add_sub_cancel _ _
end
noncomputable def A.at' (a:A)(l:Nat):A:={a with last:=l}
def NB (a:A):Prop:=∀r,(a.ps a.last).g≠.live r .B0
section
theorem FA:∀l,l<24->∀i,i<24->∀x,x<24->nB l i<nB l x->nB i x+(1+nB l i)=nB l x:=by decide+kernel
theorem Le (hl:l<24)(hi:i<24)(hx:x<24)(hy:y<24)(h1:nB l i<nB l x)(h2:nB l x<nB l y):nB i x<nB i y:=
 Nat.lt_of_add_lt_add_right (n:=1+nB l i) (FA l hl i hi x hx h1▸FA l hl i hi y hy (Nat.lt_trans h1 h2)▸h2)
theorem FC (hl:l<24)(hx:x<24)(hy:y<24)(h:nB l x=nB l y):x=y:=
 (vI hl hx).2.symm.trans ((congrArg (λd=>(l+(1+d)) % 24) h).trans (vI hl hy).2)
theorem T4 (h:Pb s g=.bB):g≠.free/\(∀r,g≠.fP r)/\s=false:=by
 induction g with
 |free=>cases h
 |fP r=>cases h
 |live r pc=>induction s with
  |true=>cases h
  |false=>exact ⟨(eD rfl),(λZ=>eD rfl),rfl⟩
 |first x=>induction s with
  |true=>cases h
  |false=>exact ⟨(eD rfl),(λZ=>eD rfl),rfl⟩
theorem Mt.ready (M:Mt w a)(hi:i<24)(h:(w.ps i).st=.bB):(a.ps i).g≠.free/\(∀r,(a.ps i).g≠.fP r)/\(a.ps i).sl=false:=T4 ((M.ps i hi).st.symm.trans h)
theorem Mt.v8 (M:Mt w a)(hi:i<24)(hg:(a.ps i).g=.live r pc)(hw:k9 pc=false):(w.ps i).st=.bB/\(a.ps i).sl=false:=by
 have h2:=((M.ps i hi).at hg).qJ;induction hs:(a.ps i).sl with
 |false=>rw [hs] at h2;exact ⟨h2,rfl⟩
 |true=>rw [hs] at h2;exact absurd (hw.symm.trans (CF.w h2)) (IG rfl)
theorem Inv.QY (I:Inv a aN)(hj:j<24)(hb:(a.ps j).g=.live r .B0)(hf:nk r .B0)(ky:(a.ps j).aJ=some c)(ir:c≠0)(h0:∃s,(a.ps 0).g=.first s):(a.ps c).g=.live .c .X0/\c<24:=by
 cases hf;obtain ⟨s,hs⟩:=h0;refine (I.aJ j hj (λe=>by rw [e,hs] at hb;injection hb:j≠0) (by rw [hb];exact eD rfl)) _ λq h1 h2 _ _ h5=>?_;have e:q=c:=Option.some.inj (h1.symm.trans ky);subst e;rw [hb] at h5;rcases h5 with ⟨h,_⟩|h
 ·exact absurd h ir
 ·exact ⟨Pg h,h2⟩
theorem Mt.fits (M:Mt w a)(hi:i<24)(hg:(a.ps i).g=.live r pc):nk r pc:=((M.ps i hi).at hg).fit
theorem Mt.zL (M:Mt w a):(a.ps 0).aJ=none:=by
 obtain ⟨s,hs⟩:=M.z;exact ((M.ps 0 (by decide)).at hs).aJ
theorem pQ.b0 (M:Mt w a)(I:Inv a aN)(N:NB a)(hn:pQ w i)(hj:j<24)(hb:(a.ps j).g=.live r .B0)(ky:(a.ps j).aJ=some c):c≠i/\(j≠i->nB i j<nB i c):=by
 refine (I.b0 j r hj (λe=>N r (e▸hb):j≠a.last) hb) _ λc' h1 h2 h3=>?_;have e:c'=c:=Option.some.inj (h1.symm.trans ky);subst e;obtain ⟨hx,hc⟩:=I.QY hj hb (M.fits hj hb) h1 h2 M.z;have hl:=I.last;have h4:=hn.2.2 j hj ((M.v8 hj hb rfl).1);rw [M.last] at h4;refine ⟨λe=>?_,λdw=>?_⟩
 ·simp only [e] at h3;exact absurd (Nat.lt_of_le_of_lt h4 h3) (Nat.lt_irrefl _)
 ·refine Le hl hn.1 hj hc (Nat.lt_of_le_of_ne h4 λe=>dw (FC hl hn.1 hj e).symm) h3
theorem Inv.at (I:Inv a aN)(M:Mt w a)(N:NB a)(hn:pQ w i):Inv (a.at' i) aN:=
 (.mk I.aJ I.p0 I.fr I.gn I.gH I.qL I.nD I.qV I.ch I.nz (λj r hj Xy hb=>by
  have aaV:j≠a.last:=λe=>N r (e▸hb);refine (I.b0 j r hj aaV hb) _ λc h1 h2 h3=>?_;exact (.mk c h1 h2 ((pQ.b0 M I N hn hj hb h1).2 Xy))) I.line I.qM I.qW I.hV I.way hn.1)
theorem Mt.upd (M:Mt w a)(hi:i<24)(hp:PM (w'.ps i) p a.fd)(ho:∀k,k≠i->w'.ps k=w.ps k) (hn:w'.next=w.next) (hl:w'.last=l) (hf:w'.fst=w.fst) (hF:fM w') (HY:w'.eu=w.eu/\w'.dG=w.dG)
  (hz:(i=0/\∃s,p.g=.first s)\/(i≠0/\∀s,p.g≠.first s)):Mt w' ((a.at' l).set i p):=by
 refine (.mk (λk hk=>?_) ?_ (λk hk qT s=>?_) (hn.trans M.next) hl (hf.trans M.fst) hF ⟨HY.1.trans M.np.1,HY.2.trans M.np.2⟩)
 ·by_cases e:k=i
  ·subst e;rw [bg];exact hp
  ·rw [bu e,ho k e];exact M.ps k hk
 ·rcases hz with ⟨rfl,s,h⟩|⟨h,_⟩
  ·exact ⟨s,by rw [bg];exact h⟩
  ·rw [bu (Ne.symm h)];exact M.z
 ·by_cases e:k=i
  ·subst e
   rw [bg];rcases hz with ⟨h,_⟩|⟨_,h⟩
   ·exact absurd h qT
   ·exact h s
  ·rw [bu e];exact M.nz k hk qT s
end
noncomputable def DW (p:AP):AP:={p with sl:=false}
def eZ (p:AP):Bool:=p.sl&&!decide (p.g=.first .nil)
def dF (a:A)(p:Nat):A:=if eZ (a.ps p)=true then a.set p (DW (a.ps p)) else a
section
theorem r7 (I:Inv a aN)(M:Mt w a)(hi:i<24)(hg:(a.ps i).g≠.free):(a.ps i).aJ≠some i:=λe=>by
 by_cases e0:i=0
 ·subst e0
  exact absurd (M.zL.symm.trans e) (ip rfl)
 ·refine (I.aJ i hi e0 hg) _ λp h1 _ h3 _ _=>?_
  have:p=i:=Option.some.inj (h1.symm.trans e);subst this;exact absurd h3 (Int.lt_irrefl _)
theorem Inv.wake (I:Inv a aN)(M:Mt w a)(hi:i<24)(hg:(a.ps i).g≠.free)(hz:∀r,(a.ps i).g≠.fP r):Inv (dF a i) aN:=by
 unfold dF;split
 ·exact I.upd hi rfl rfl hg hg rfl (λZ Z Z Z Z h=>Ld (Q':=DW (a.ps i)) rfl h) (λn hn=>I.ch i n hi hn) (λh=>by injection h) (λr h=>absurd h (hz r)) (r7 I M hi hg) (λr h=>h) (λq h e=>by subst e;exact h)
   (by unfold ln;rfl) (by unfold kF;rfl) (λs=>rfl) (λz h e=>by subst e;exact h)
 ·exact I
theorem jZ:((dF a i).ps j).g=(a.ps j).g/\((dF a i).ps j).aS=(a.ps j).aS/\((dF a i).ps j).aJ=(a.ps j).aJ:=by
 unfold dF;split
 ·by_cases e:j=i
  ·refine e▸?_;rw [bg];exact ⟨rfl,rfl,rfl⟩
  ·rw [bu e];exact ⟨rfl,rfl,rfl⟩
 ·exact ⟨rfl,rfl,rfl⟩
theorem T5:cJ (DW p)<=cJ p+(if eZ p=true then 1 else 0)\/eZ p=false:=by
 by_cases hs:eZ p=true
 ·left
  rw [if_pos hs];unfold eZ at hs;have h1:p.sl=true:=by induction h:p.sl with|true=>rfl|false=>rw [h] at hs;injection hs
  delta cJ DW;induction hg:p.g with
  |free=>show (0:Int)<=0+1;decide
  |fP r=>exact Int.le_of_lt (Int.lt_succ _)
  |live r pc=>
   refine (?_:DT pc+(if k9 pc=true/\false=false then 1 else 0)<=DT pc+(if k9 pc=true/\p.sl=false then 1 else 0)+1);have:(if k9 pc=true/\p.sl=false then (1:Int) else 0)=0:=if_neg (λh=>by rw [h1] at h;injection h.2);rw [this];split<;>simp+arith only
  |first s=>
   show (match s with|.cN _=>(36:Int)|_=>0)+(if false=true then 0 else 1)<=(match s with|.cN _=>(36:Int)|_=>0)+(if p.sl=true then 0 else 1)+1;rw [h1];simp
 ·right
  induction h:eZ p with
  |true=>exact absurd h hs
  |false=>rfl
theorem x9 (hi:i<24):(dF a i).S cJ<=a.S cJ+(if eZ (a.ps i)=true then 1 else 0):=by
 unfold dF;by_cases hs:eZ (a.ps i)=true
 ·rw [if_pos hs,if_pos hs,ij hi]
  rcases T5 (p:=a.ps i) with h|h
  ·rw [if_pos hs] at h;omega
  ·rw [h] at hs;injection hs
 ·rw [if_neg hs,if_neg hs];simp+arith only
theorem T6 {c:Ch}(h:uh c=uh (.child n)):c=.child n:=by
 induction c with
 |none=>injection h
 |lines=>cases h
 |child m=>unfold uh at h;injection h with _ h;injection h with h;injection h with h;rw [h]
theorem XC (h:Ch.child x=.child y):x=y:=by injection h
theorem Mt.YU (M:Mt w a){n:Int}(hk:j<24)(hs:bL (uh (.child n)) (w.ps j)=true):(a.ps j).aS=n/\(a.ps j).g≠.free/\eZ (a.ps j)=true:=by
 unfold bL at hs;have h:=Bool.and_eq_true_iff.mp hs;have h2:=T6 (of_decide_eq_true h.2);have h1:=(M.ps j hk).st.symm.trans (of_decide_eq_true h.1);have hP:=M.ps j hk;unfold PM at hP;unfold eZ
 revert h1 hP
 cases (a.ps j).g with
 |free=>nofun
 |fP r=>nofun
 |live r pc=>
  intro h1 hP;have h3:=hP.qJ
  revert h1 h3
  cases (a.ps j).sl with
  |false=>nofun
  |true=>exact λZ h3=>⟨XC ((CF.ch h3).symm.trans h2),(eD rfl),rfl⟩
 |first s=>
  intro h1 hP;have h3:=hP.qJ
  revert h1 h3
  cases (a.ps j).sl with
  |false=>nofun
  |true=>
   intro Z h3;induction Hq.ch h3 with
   |nil e h=>exact absurd (h.symm.trans h2) (S7 rfl)
   |un q e h=>exact ⟨XC (h.symm.trans h2),(eD rfl),by rw [e];rfl⟩
theorem v9 (h:P.st=.aU)(h2:P.cF=.child n):bL (uh (.child n)) P=true:=by
 unfold bL;simp only [decide_eq_true h,h2,decide_eq_true rfl];rfl
theorem PM.wk (h:PM P p fd)(hs:eZ p=true)(hz:∀r,p.g≠.fP r) (hf:p.g≠.free):bL (uh (.child P.aS)) P=true/\PM (qU P) (DW p) fd:=by
 unfold eZ at hs;have h1:=(Bool.and_eq_true_iff.mp hs).1;have h2:=(Bool.and_eq_true_iff.mp hs).2;induction e:p.g with
 |free=>exact absurd e hf
 |fP r=>exact absurd e (hz r)
 |live r pc=>
  have k:=h.at e;have k6:=k.qJ;rw [h1] at k6;have k7:CF P.st P.cF p.aS pc:=k6;exact ⟨v9 k7.st (k.aS▸k7.ch),.Pa (p:=DW p) e (.mk k.fit k.aS k.aJ k.dq k.fl rfl)⟩
 |first s=>
  have k:=h.at e;have k6:=k.qJ;replace k6:=(h1)▸k6;have k7:Hq P.st P.cF p.aS s:=k6;refine ⟨?_,.Pa (p:=DW p) e (.mk k.aS k.pS k.aJ k.dq k.fl rfl)⟩;induction k7.ch with
  |nil e2 Z=>replace h2:=(e2)▸(e)▸h2;injection h2
  |un q Z h5=>exact v9 k7.st (k.aS▸h5)
theorem Mt.wake (M:Mt w a)(U:∀i j,i<24->j<24->(a.ps i).g≠.free->(a.ps j).g≠.free->(a.ps i).aS=(a.ps j).aS->i=j) (hi:i<24) (hg:(a.ps i).g≠.free) (hz:∀r,(a.ps i).g≠.fP r):Mt (fL w (uh (.child (w.ps i).aS)) 24) (dF a i):=by
 have aaW:∀k,k<24->bL (uh (.child (w.ps i).aS)) (w.ps k)=true->k=i:=λk hk hs=>
  U k i hk hi (M.YU hk hs).2.1 hg ((M.YU hk hs).1.trans ((M.ps i hi).aS hg:(w.ps i).aS=(a.ps i).aS))
 have Mj:∀k,k<24->PM ((fL w (uh (.child (w.ps i).aS)) 24).ps k) ((dF a i).ps k) a.fd:=λk hk=>by
  refine (?_:PM (if k<24/\bL (uh (.child (w.ps i).aS)) (w.ps k)=true then qU (w.ps k) else w.ps k) _ _);by_cases hs:bL (uh (.child (w.ps i).aS)) (w.ps k)=true
  ·have e:=aaW k hk hs
   subst e;have h2:=(M.YU hk hs).2.2;rw [if_pos ⟨hk,hs⟩];unfold dF;rw [if_pos h2,bg];exact ((M.ps k hk).wk h2 hz hg).2
  ·rw [if_neg (λh=>hs h.2)]
   unfold dF;by_cases h2:eZ (a.ps i)=true
   ·rw [if_pos h2]
    rw [bu (λe=>by subst e;exact hs ((M.ps k hk).wk h2 hz hg).1 :k≠i)];exact M.ps k hk
   ·rw [if_neg h2];exact M.ps k hk
 have vX:(dF a i).fd=a.fd/\(dF a i).next=a.next/\(dF a i).last=a.last/\(dF a i).np=a.np:=by unfold dF;split<;>exact ⟨rfl,rfl,rfl,rfl⟩
 refine (.mk (λk hk=>by simp only [vX.1];exact Mj k hk) ?_ (λk hk qT s=>by rw [jZ.1];exact M.nz k hk qT s) (by simp only [vX.2.1];exact M.next) (by simp only [vX.2.2.1];exact M.last) M.fst (M.hF.congr (λk=>?_) rfl rfl) (by refine (vX.2.2.2)▸?_;exact M.np))
 ·obtain ⟨s,hs⟩:=M.z
  exact ⟨s,by rw [jZ.1];exact hs⟩
 ·refine (?_:(if k<24/\bL (uh (.child (w.ps i).aS)) (w.ps k)=true then qU (w.ps k) else w.ps k).fl=(w.ps k).fl)
  split<;>rfl
end
def gI (a:A)(j:Nat):A:=if Xv (a.ps j).g=true then (dF a 0).set j (jL (a.ps j) (some 0)) else a.set j (jL (a.ps j) (some 0))
section
theorem ml (h:j≠i):(dF a i).ps j=a.ps j:=by
 unfold dF;split
 ·rw [bu h]
 ·rfl
theorem Cb (h:j≠i):dF (a.set j p) i=(dF a i).set j p:=by
 unfold dF;rw [bu (Ne.symm h)];split
 ·unfold A.set;congr 1;funext x;simp only []
  by_cases e:x=i
  ·subst e;rw [if_pos rfl,if_neg (Ne.symm h),if_pos rfl]
  ·rw [if_neg e]
   by_cases e':x=j
   ·rw [if_pos e',if_pos e']
   ·rw [if_neg e',if_neg e',if_neg e]
 ·rfl
theorem PM.aJ (h:PM P p fd)(hg:p.g≠.free)(hf:∀s,p.g≠.first s):PM (w9 P (some 0)) (jL p (some 0)) fd:=by
 induction h':p.g with
 |free=>exact absurd h' hg
 |first s=>exact absurd h' (hf s)
 |fP r=>exact .Pa (p:=jL p (some 0)) h' (.mk ((h.at h').st) ((h.at h').status) ((h.at h').aS) rfl ((h.at h').sl))
 |live r pc=>exact .Pa (p:=jL p (some 0)) h' (.mk ((h.at h').fit) ((h.at h').aS) rfl ((h.at h').dq) ((h.at h').fl) ((h.at h').qJ))
theorem Mt.DX (M:Mt w a)(hj:j<24)(iq:j≠0)(hg:(a.ps j).g≠.free):Mt (w.aL j (w9 (w.ps j) (some 0))) (a.set j (jL (a.ps j) (some 0))):=by
 refine (.mk (λk hk=>?_) ?_ (λk hk qT s=>?_) M.next M.last M.fst (M.hF.congr (λk=>?_) rfl rfl) M.np)
 ·by_cases e:k=j
  ·subst e;simp only [bg,ah];exact (M.ps k hk).aJ hg (M.nz k hk iq)
  ·rw [bu e,aD e];exact M.ps k hk
 ·rw [bu (Ne.symm iq)];exact M.z
 ·by_cases e:k=j
  ·refine e▸?_;rw [bg];exact M.nz k hk qT s
  ·rw [bu e];exact M.nz k hk qT s
 ·by_cases e:k=j
  ·refine e▸?_;rw [ah];rfl
  ·rw [aD e]
theorem T7:Pb s g=.bc↔Xv g=true:=by
 induction g with
 |free=>exact (by decide:Nm.ae=.bc↔false=true)
 |fP r=>exact (by decide:Nm.bc=.bc↔true=true)
 |live r pc=>induction s with
  |true=>exact (by decide:Nm.aU=.bc↔false=true)
  |false=>exact (by decide:Nm.bB=.bc↔false=true)
 |first x=>induction s with
  |true=>exact (by decide:Nm.aU=.bc↔false=true)
  |false=>exact (by decide:Nm.bB=.bc↔false=true)
theorem Mt.uu (M:Mt w a)(hj:j<24):(w.ps j).st=.bc↔Xv (a.ps j).g=true:=(M.ps j hj).st▸T7
theorem Mt.adopt (M:Mt w a)(I:Inv a aN)(hj:j<24)(iq:j≠0)(hg:(a.ps j).g≠.free):Mt (Internal.adopt w j) (Internal.gI a j):=by
 delta Internal.adopt Internal.gI;by_cases hz:(w.ps j).st=.bc
 ·rw [if_pos hz,if_pos ((M.uu hj).mp hz),<- Cb iq]
  obtain ⟨s,hs⟩:=(M.DX hj iq hg).z;have YV:∀k,((a.set j (jL (a.ps j) (some 0))).ps k).g=(a.ps k).g/\((a.set j (jL (a.ps j) (some 0))).ps k).aS=(a.ps k).aS:=λk=>by
   by_cases e:k=j
   ·refine e▸?_;rw [bg];exact ⟨rfl,rfl⟩
   ·rw [bu e];exact ⟨rfl,rfl⟩
  exact (M.DX hj iq hg).wake (λx y hx hy gx gy e=>by rw [(YV x).1] at gx;rw [(YV y).1] at gy;simp only [(YV x).2,(YV y).2] at e;exact I.gn x y hx hy gx gy e) (by decide) (by rw [hs];exact eD rfl) (λr=>by rw [hs];exact eD rfl)
 ·rw [if_neg hz,if_neg (λh=>hz ((M.uu hj).mpr h))]
  exact (M.DX hj iq hg)
set_option tactic.hygienic true in
theorem Inv.gI (I:Inv a aN)(M:Mt w a)(hj:j<24)(iq:j≠0)(hi:i<24)(dk:i≠0)(hp:(a.ps j).aJ=some i)(Fv:(a.ps j).g≠.free)(hr:bR (a.ps j).g=some .r\/bR (a.ps j).g=some .b)(UQ:need (a.ps i).g=none)(Ek:∀r,(a.ps j).g≠.live r .B0):
  Inv (Internal.gI a j) aN:=by
 obtain ⟨s,hs⟩:=M.z;unfold Internal.gI;split
 ·rename_i hz
  have e1:(dF a 0).ps j=a.ps j:=ml iq;have:=(I.wake M (i:=0) (by decide) (by rw [hs];exact eD rfl) (λr=>by rw [hs];exact eD rfl)).adopt (i:=i) hj iq hi dk (by rw [e1];exact hp) (by rw [e1];exact Fv) (by refine (e1)▸?_;exact hr) (by refine ((ml dk:(dF a 0).ps i=a.ps i))▸?_;exact UQ) ⟨s,by rw [jZ.1];exact hs⟩ (λr=>by rw [e1];exact Ek r) (λr Z vJ=>?_)
  ·rwa [e1] at this
  ·unfold dF at vJ ⊢
   split at vJ
   ·rw [bg] at vJ;injection vJ
   ·rename_i hn
    rw [if_neg hn];unfold eZ at hn;replace hn:=(vJ)▸hn;exact Classical.byContradiction λh=>hn (by refine (decide_eq_false h)▸?_;rfl)
 ·rename_i hz
  exact I.adopt hj iq hi dk hp Fv hr UQ ⟨s,hs⟩ Ek (λr h=>by rw [h] at hz;exact absurd rfl hz)
theorem DY (hj:j<24)(iq:j≠0)(dk:i≠0)(hp:(a.ps j).aJ=some i)(hr:bR (a.ps j).g=some .r\/bR (a.ps j).g=some .b):(Internal.gI a j).S cJ<=a.S cJ:=by
 unfold Internal.gI;induction hg:(a.ps j).g with
 |free=>rw [hg] at hr;rcases hr with h|h<;>injection h
 |first s=>rw [hg] at hr;rcases hr with h|h<;>injection h
 |live r pc=>
  rw [if_neg (show ¬Xv (.live r pc)=true from (IG rfl)),ij hj];have:cJ (jL (a.ps j) (some 0))=cJ (a.ps j):=by unfold cJ jL;simp only [hg]
  refine (this)▸?_;simp+arith only
 |fP r=>
  rw [if_pos (show Xv (.fP r)=true from rfl),ij hj,ml iq];have h1:cJ (jL (a.ps j) (some 0))=1:=by
   delta cJ jL;simp only [hg];rw [if_neg (λh=>h.2 rfl)]
  have h2:cJ (a.ps j)=2:=by
   unfold cJ;simp only [hg];have hrr:r=.r\/r=.b:=by
    rw [hg] at hr;rcases hr with h|h
    ·exact .inl (Option.some.inj h)
    ·exact .inr (Option.some.inj h)
   exact if_pos ⟨hrr,(λe=>dk (Option.some.inj (hp.symm.trans e)):(a.ps j).aJ≠some 0)⟩
  have:=x9 (a:=a) (i:=0) (by decide);have h3:(if eZ (a.ps 0)=true then (1:Int) else 0)<=1:=by split<;>decide
  simp only [h1,h2];grind only
end
section
variable {w w':W}
theorem ti (h:P.st≠.aU):bL xs P=false:=by unfold bL;rw [decide_eq_false h];rfl
theorem wa (h:(w.ps i).st≠.aU)(hq:Q.st≠.aU):fL (w.aL i Q) xs n=(fL w xs n).aL i Q:=by
 delta fL W.aL;congr 1;funext x;simp only [];by_cases e:x=i
 ·rw [if_pos e,if_pos e,ti hq];exact if_neg (λh=>by injection h.2)
 ·rw [if_neg e,if_neg e]
theorem Hs (h:i≠j):(w.aL i P).aL j Q=(w.aL j Q).aL i P:=by
 unfold W.aL;congr 1;funext x;simp only [];by_cases e:x=j
 ·rw [if_pos e,if_neg (λe'=>h (e'.symm.trans e)),if_pos e]
 ·rw [if_neg e,if_neg e]
theorem DZ (hj:j≠i)(dk:i≠0)(h:(w.ps i).st≠.aU)(hq:Q.st≠.aU):adopt (w.aL i Q) j=(adopt w j).aL i Q:=by
 unfold adopt;rw [aD hj,Hs (Ne.symm hj)];split
 ·rw [wa (by rw [aD (Ne.symm hj)];exact h) hq,aD (Ne.symm dk)]
 ·rfl
theorem Lf (hj:j≠i)(h:(w.ps i).st≠.aU):(adopt w j).ps i=w.ps i:=by
 unfold adopt;split
 ·refine (?_:(if i<24/\bL _ ((w.aL j _).ps i)=true then qU ((w.aL j _).ps i) else (w.aL j _).ps i)=_)
  rw [aD (Ne.symm hj),ti h];exact if_neg (λh=>by injection h.2)
 ·rw [aD (Ne.symm hj)]
theorem Cc (dk:i≠0)(hq:Q.st≠.aU):∀{w:W},(∀j,j∈L->j≠i)->(w.ps i).st≠.aU->cb (w.aL i Q) L=(cb w L).aL i Q/\(cb w L).ps i=w.ps i:=by
 induction L with
 |nil=>exact λZ Z=>⟨rfl,rfl⟩
 |cons j L ih=>
  intro w hL h;have hj:=hL j (.head _);have e:=Lf (w:=w) hj h;have:=ih (w:=adopt w j) (λx hx=>hL x (.tail _ hx)) (e▸h);exact ⟨(congrArg (λw=>cb w L) (DZ (w:=w) (Q:=Q) hj dk h hq)).trans this.1,this.2.trans e⟩
theorem Cd (h1:Q.aJ=(w.ps i).aJ)(h2:Q.st≠.ae)(h3:(w.ps i).st≠.ae):fR (w.aL i Q) q=fR w q:=by
 refine List.filter_congr λx hx=>?_;unfold eB;by_cases e:x=i
 ·subst e;rw [ah,h1,decide_eq_false h2,decide_eq_false h3]
 ·rw [aD e]
end
def Kept.ZF (a a':A)(Z:Prop):Prop:=∀(g:∀k,(a'.ps k).g=(a.ps k).g/\(a'.ps k).aS=(a.ps k).aS) (next:a'.next=a.next) (last:a'.last=a.last) (fd:a'.fd=a.fd) (np:a'.np=a.np),Z
def Kept (a a'):=∀Z:Prop,Kept.ZF a a' Z->Z
theorem Kept.mk:Kept.ZF a a' (Kept a a'):=λg next last fd np _ Z=>Z g next last fd np
def Kept.g (Z:Kept a a'):=Z _ λg next last fd np=>g
def Kept.next (Z:Kept a a'):=Z _ λg next last fd np=>next
def Kept.last (Z:Kept a a'):=Z _ λg next last fd np=>last
def Kept.fd (Z:Kept a a'):=Z _ λg next last fd np=>fd
def Kept.np (Z:Kept a a'):=Z _ λg next last fd np=>np
section
variable {i j c q:Nat}
theorem Kept.rfl':Kept a a:=(.mk (λZ=>⟨rfl,rfl⟩) rfl rfl rfl rfl)
theorem Kept.trans (x:Kept a a')(y:Kept a' b):Kept a b:=(.mk (λk=>⟨(y.g k).1.trans (x.g k).1,(y.g k).2.trans (x.g k).2⟩) (y.next.trans x.next) (y.last.trans x.last) (y.fd.trans x.fd) (y.np.trans x.np))
theorem ya:Kept a (dF a i):=by
 refine (.mk (λk=>⟨jZ.1,jZ.2.1⟩) ?_ ?_ ?_ ?_)<;>(unfold dF;split<;>rfl)
theorem D0:Kept a (gI a j):=by
 have h1:∀b:A,(b.ps j).g=(a.ps j).g->(b.ps j).aS=(a.ps j).aS->Kept b (b.set j (jL (a.ps j) (some 0))):=λb e e'=>(.mk (λk=>by
  by_cases ek:k=j
  ·subst ek;rw [bg];exact ⟨e.symm,e'.symm⟩
  ·rw [bu ek];exact ⟨rfl,rfl⟩) rfl rfl rfl rfl)
 unfold gI;split
 ·exact ya.trans (h1 _ jZ.1 jZ.2.1)
 ·exact h1 a rfl rfl
theorem tj (h:q≠j)(h0:q≠0):(gI a j).ps q=a.ps q:=by
 unfold gI;split
 ·rw [bu h,ml h0]
 ·rw [bu h]
theorem D1 (h0:j≠0):((gI a j).ps q).aJ=if q=j then some 0 else (a.ps q).aJ:=by
 unfold gI;by_cases e:q=j
 ·subst e;rw [if_pos rfl];split<;>(rw [bg];rfl)
 ·rw [if_neg e];split
  ·rw [bu e];exact jZ.2.2
  ·rw [bu e]
def gS.ZF (a:A)(i j:Nat)(Z:Prop):Prop:=∀(lt:j<24)(n0:j≠0)(ni:j≠i)(aJ:(a.ps j).aJ=some i)(nf:(a.ps j).g≠.free)(role:bR (a.ps j).g=some .r\/bR (a.ps j).g=some .b)(nb:∀r,(a.ps j).g≠.live r .B0),Z
def gS (a i j):=∀Z:Prop,gS.ZF a i j Z->Z
theorem gS.mk:gS.ZF a i j (gS a i j):=λlt n0 ni aJ nf role nb _ Z=>Z lt n0 ni aJ nf role nb
def gS.lt (Z:gS a i j):=Z _ λlt n0 ni aJ nf role nb=>lt
def gS.n0 (Z:gS a i j):=Z _ λlt n0 ni aJ nf role nb=>n0
def gS.ni (Z:gS a i j):=Z _ λlt n0 ni aJ nf role nb=>ni
def gS.aJ (Z:gS a i j):=Z _ λlt n0 ni aJ nf role nb=>aJ
def gS.nf (Z:gS a i j):=Z _ λlt n0 ni aJ nf role nb=>nf
def gS.role (Z:gS a i j):=Z _ λlt n0 ni aJ nf role nb=>role
def gS.nb (Z:gS a i j):=Z _ λlt n0 ni aJ nf role nb=>nb
def UR.ZF (a:A)(aN:List Int)(i:Nat)(L:List Nat)(w':W)(Z:Prop):Prop:=∀(a':A)(M:Mt w' a')(I:Inv a' aN)(K:Kept a a')(cJ:a'.S cJ<=a.S cJ)(at_:a'.ps i=a.ps i)(aJ:∀q,(a'.ps q).aJ=if q∈L then some 0 else (a.ps q).aJ),Z
def UR (a aN i L w'):=∀Z:Prop,UR.ZF a aN i L w' Z->Z
theorem UR.mk:UR.ZF a aN i L w' (UR a aN i L w'):=λa' M I K cJ at_ aJ _ Z=>Z a' M I K cJ at_ aJ
theorem Pq:(if q∈L then x else if q=j then x else y)=if q∈j::L then x else y:=by
 by_cases e:q∈L
 ·rw [if_pos e,if_pos (.tail _ e)]
 ·rw [if_neg e]
  by_cases e':q=j
  ·rw [if_pos e',if_pos (e'▸.head _)]
  ·rw [if_neg e',if_neg λh=>(List.mem_cons.mp h).elim e' e]
theorem D2 (hi:i<24)(dk:i≠0):∀{w:W}{a:A},Mt w a->Inv a aN->L.Pairwise (·<·)->(L≠[]->need (a.ps i).g=none)->(∀j,j∈L->gS a i j)->UR a aN i L (cb w L):=by
 induction L with
 |nil=>exact λ{w a} M I Z Z Z=>(.mk a M I .rfl' (Int.le_refl _) rfl (λq=>(if_neg nofun).symm))
 |cons j L ih=>
  intro w a M I hp hn hL;have k:=hL j (.head _);refine (ih (M.adopt I k.lt k.n0 k.nf) (I.gI M k.lt k.n0 hi dk k.aJ k.nf k.role (hn (wX rfl)) k.nb) (List.pairwise_cons.mp hp).2 (λZ=>(tj (Ne.symm k.ni) dk:(gI a j).ps i=a.ps i)▸hn (wX rfl)) λx hx=>by
   have y:=hL x (.tail _ hx);have e:=tj (a:=a) (Nat.ne_of_gt ((List.pairwise_cons.mp hp).1 x hx)) y.n0;exact (.mk y.lt y.n0 y.ni (e▸y.aJ) (e▸y.nf) (e▸y.role) (e▸y.nb))) _ λa' g1 g2 g3 g4 g5 g6=>?_
  exact (.mk a' g1 g2 (D0.trans g3) (Int.le_trans g4 (DY k.lt k.n0 dk k.aJ k.role)) (g5.trans (tj (Ne.symm k.ni) dk:(gI a j).ps i=a.ps i)) (λq=>((g6 q).trans (congrArg _ (D1 k.n0))).trans Pq))
end
noncomputable def yb (p:AP)(r:Rl):AP:=⟨.fP r,false,p.aS,p.aJ⟩
def wb.ZF (a:A)(aN:List Int)(i:Nat)(r:Rl)(w':W)(Z:Prop):Prop:=∀(a':A)(M:Mt w' a')(I:Inv a' aN)(g:(a'.ps i).g=.fP r)(ge:∀k,k≠i->(a'.ps k).g=(a.ps k).g) (next:a'.next=a.next) (last:a'.last=a.last) (fd:a'.fd=a.fd) (np:a'.np=a.np) (cJ:a'.S cJ<=a.S cJ - 1),Z
def wb (a aN i r w'):=∀Z:Prop,wb.ZF a aN i r w' Z->Z
theorem wb.mk:wb.ZF a aN i r w' (wb a aN i r w'):=λa' M I g ge next last fd np cJ _ Z=>Z a' M I g ge next last fd np cJ
section
theorem r8 (h:∀j,j<24->(a.ps j).aJ≠some i):qi a i=0:=by
 delta qi A.S;rw [kA (f:=λZ=>0) 24 (λj hj=>if_neg (h j hj)),mT];rfl
theorem Pt:Pb s g=.ae↔g=.free:=by
 induction g with
 |free=>exact ⟨λZ=>rfl,λZ=>rfl⟩
 |fP r=>exact ⟨nofun,(eD rfl)⟩
 |live r pc=>induction s with
  |true=>exact ⟨nofun,(eD rfl)⟩
  |false=>exact ⟨nofun,(eD rfl)⟩
 |first x=>induction s with
  |true=>exact ⟨nofun,(eD rfl)⟩
  |false=>exact ⟨nofun,(eD rfl)⟩
theorem Mt.eQ (M:Mt w a)(hj:j<24):(w.ps j).st=.ae↔(a.ps j).g=.free:=(M.ps j hj).st▸Pt
theorem Mt.wc (M:Mt w a)(I:Inv a aN)(hj:j<24):(w.ps j).aJ=(a.ps j).aJ:=(M.ps j hj).aaR (I.fr j hj)
theorem Mt.kids (M:Mt w a)(I:Inv a aN)(hj:j∈fR w i):j<24/\(a.ps j).aJ=some i/\(a.ps j).g≠.free:=by
 refine cX (kx hj) λh1 h2=>?_;unfold eB at h2;have ⟨h3,h4⟩:=Bool.and_eq_true_iff.mp h2;refine ⟨h1,by rw [<- M.wc I h1];exact of_decide_eq_true h4,λe=>?_⟩;rw [decide_eq_true ((M.eQ h1).mpr e)] at h3;injection h3
theorem Mt.D3 (M:Mt w a)(I:Inv a aN)(hj:j<24)(hp:(a.ps j).aJ=some i):j∈fR w i:=by
 refine qH hj ?_;unfold eB;have hf:(a.ps j).g≠.free:=λe=>by rw [I.fr j hj e] at hp;injection hp
 rw [decide_eq_false (λe=>hf ((M.eQ hj).mp e)),M.wc I hj,decide_eq_true hp];rfl
theorem Mt.aaX (M:Mt w a)(hi:i<24)(dk:i≠0)(hg:(a.ps i).g=.live r pc):Mt (w.aL i (qe (w.ps i) (vY r))) (a.set i (yb (a.ps i) r)):=by
 have hP:=(M.ps i hi).at hg;refine (.mk (λk hk=>?_) ?_ (λk hk qT s=>?_) M.next M.last M.fst (M.hF.congr (λk=>?_) rfl rfl) M.np)
 ·by_cases e:k=i
  ·subst e;simp only [bg,ah];exact (.mk rfl rfl hP.aS hP.aJ rfl)
  ·rw [bu e,aD e];exact M.ps k hk
 ·rw [bu (Ne.symm dk)];exact M.z
 ·by_cases e:k=i
  ·refine e▸?_;rw [bg];exact eD rfl
  ·rw [bu e];exact M.nz k hk qT s
 ·by_cases e:k=i
  ·refine e▸?_;rw [ah];rfl
  ·rw [aD e]
theorem j5 {Q:AP}(h:fj g q Q):∃r,bR g=some r/\fj.uk r q Q:=by
 induction g with
 |free=>exact h.elim
 |first s=>exact h.elim
 |fP r=>exact ⟨r,rfl,h⟩
 |live r pc=>exact ⟨r,rfl,h⟩
theorem zM {Q:AP}(h:bR g=some r)(hr:fj.uk r q Q):fj g q Q:=(congrArg (TY q Q) h).mpr hr
theorem Pw (nC:pc=.X0\/pc=.E1)(h:Pd r pc=some r'):some r'=some .r\/some r'=some CE.b:=by
 revert h
 exact nC.elim (λe=>e▸CE.casesOn (motive:=λr=>Pd r .X0=some r'->some r'=some CE.r\/some r'=some CE.b) r (ip rfl) (ip rfl) (λh=>.inl h.symm) (λh=>.inl h.symm) (ip rfl) (λh=>.inr h.symm) (ip rfl) (ip rfl))
  (λe=>e▸CE.casesOn (motive:=λr=>Pd r .E1=some r'->some r'=some CE.r\/some r'=some CE.b) r (ip rfl) (ip rfl) (ip rfl) (ip rfl) (ip rfl) (ip rfl) (ip rfl) (ip rfl))
theorem Lg (M:Mt w a)(I:Inv a aN)(hi:i<24)(dk:i≠0)(hg:(a.ps i).g=.live r pc)(nC:pc=.X0\/pc=.E1)(Ek:∀j,j<24->(a.ps j).aJ=some i->∀r',(a.ps j).g≠.live r' .B0) (hj:j∈fR w i):gS a i j:=by
 refine gC (M.kids I hj) λh1 h2 h3=>?_;refine (.mk h1 (λe=>by rw [e,M.zL] at h2;injection h2:j≠0) (λe=>r7 I M hi (hg▸(eD rfl)) (e▸h2)) h2 h3 ?_ (Ek j h1 h2));refine (I.aJ j h1 (λe=>by rw [e,M.zL] at h2;injection h2:j≠0) h3) _ λp e1 _ _ _ e5=>?_;refine aQ (j5 e5) λr' h5 h6=>?_;refine (h5)▸?_;induction h6 with
 |z h=>exact absurd ((Option.some.inj (e1.symm.trans h2):p=i)▸h) dk
 |k h=>
  exact Pw nC ((hg)▸((Option.some.inj (e1.symm.trans h2):p=i))▸h.fn)
theorem Ht (M:Mt w a)(I:Inv a aN)(hi:i<24)(hg:(a.ps i).g=.live r pc)(nC:pc=.X0\/pc=.E1)(dw:fR w i≠[]):need (a.ps i).g=none:=by
 obtain ⟨j,hj⟩:=List.exists_mem_of_ne_nil _ dw;have h0:need (a.ps i).g≠some 0:=λe=>I.DU hi e (M.kids I hj).1 (M.kids I hj).2.1;rw [hg] at h0 ⊢;rcases nC with rfl|rfl
 ·induction r<;>first|rfl|exact absurd rfl h0
 ·exact absurd rfl h0
theorem XD (I:Inv a aN)(hf:(a.ps i).g≠.free)(hp:p.aS=(a.ps i).aS)(x y:Nat)(hx:x<24)(hy:y<24)(gx:((a.set i p).ps x).g≠.free)(gy:((a.set i p).ps y).g≠.free)(he:((a.set i p).ps x).aS=((a.set i p).ps y).aS):x=y:=by
 have k:∀x,(((a.set i p).ps x).g≠.free->(a.ps x).g≠.free)/\((a.set i p).ps x).aS=(a.ps x).aS:=λx=>by
  by_cases e:x=i
  ·subst e;rw [bg];exact ⟨λZ=>hf,hp⟩
  ·rw [bu e];exact ⟨id,rfl⟩
 exact I.gn x y hx hy ((k x).1 gx) ((k y).1 gy) ((k x).2.symm.trans (he.trans (k y).2))
theorem Py (h:((dF a i).ps i).sl=true):((dF a i).ps i).g=.first .nil:=by
 revert h;unfold dF
 by_cases e:eZ (a.ps i)=true
 ·rw [if_pos e,bg];exact IG rfl
 ·rw [if_neg e]
  intro h;refine Classical.byContradiction λdw=>e ?_;unfold eZ;simp only [h,decide_eq_false dw];rfl
theorem Lh (M:Mt w a)(I:Inv a aN)(hi:i<24)(dk:i≠0)(hg:(a.ps i).g=.live r pc)(nC:pc=.X0\/pc=.E1)(hp:(a.ps i).aJ=some q)(hq:q<24)(hqi:q≠i)(hf:(a.ps q).g≠.free)(hz:∀r',(a.ps q).g≠.fP r') (Li:∀j,j<24->(a.ps j).aJ≠some i):Inv ((dF a q).set i (yb (a.ps i) r)) aN:=by
 have e:(dF a q).ps i=a.ps i:=ml (Ne.symm hqi);have T8:∀j,j<24->((dF a q).ps j).aJ≠some i:=λj hj h=>Li j hj (jZ.2.2.symm.trans h);have eg:((dF a q).ps i).g=.live r pc:=e▸hg;refine (I.wake M hq hf hz).upd hi (e▸rfl) (e▸rfl) (eg▸(eD rfl)) (eD rfl) (eg▸rfl) (λj hj Z Z hpj Z=>absurd hpj (T8 j hj)) (λn hn=>(r8 T8).trans (Option.some.inj hn)) (IG rfl) (λr' Z k Z hpk hsk=>?_) (T8 i hi) (λZ=>eD rfl)
  (λq Z h=>absurd h dk) ?_ ?_ (λs=>?_) (λz Z h=>absurd h dk)
 ·rw [e,hp] at hpk
  induction Option.some.inj hpk;exact Py hsk
 ·unfold ln;refine (eg)▸?_;rfl
 ·unfold kF;refine (eg)▸?_;rcases nC with rfl|rfl<;>exact (Int.sub_zero _).symm
 ·unfold dl;refine (eg)▸?_;rcases nC with rfl|rfl<;>exact congrArg (cI s) (List.append_nil _).symm
theorem XE {x y t:Int}(h1:x<=y+t)(h2:t+s<=2):x+s - 3<=y - 1:=by grind only
theorem Lj (M:Mt w a)(hg:(a.ps i).g=.live r pc)(nC:pc=.X0\/pc=.E1)(hi:i<24)(hq:q<24)(hqi:q≠i)(hp:(a.ps i).aJ=some q)(Ca:Pe r q (a.ps q).g):((dF a q).set i (yb (a.ps i) r)).S cJ<=a.S cJ - 1:=by
 have h2:cJ (a.ps i)=3:=by
  unfold cJ;refine (hg)▸?_;rcases nC with rfl|rfl<;>rfl
 simp only [ij hi,ml (Ne.symm hqi),h2];refine XE (x9 (a:=a) (i:=q) hq) ?_;show _+(if (r=.r\/r=.b)/\(a.ps i).aJ≠some 0 then 2 else 1)<=_;refine (hp)▸?_;by_cases hr:(r=.r\/r=.b)/\(some q:Option Nat)≠some 0
 ·have Nk:eZ (a.ps q)=false:=by
   have hx:∃r',(a.ps q).g=.live r' .X0:=by
    induction Ca with
    |z h=>exact absurd (congrArg some h) hr.2
    |k h=>
     generalize (a.ps q).g=gg at h;induction h with
     |x1=>exact ⟨_,rfl⟩
     |x2=>exact ⟨_,rfl⟩
     |c=>exact ⟨_,rfl⟩
     |_=>rcases hr.1 with h|h<;>injection h
   obtain ⟨r',hx⟩:=hx;unfold eZ;rw [(M.v8 hq hx rfl).2];rfl
  rw [if_pos hr,Nk];decide
 ·refine (if_neg hr)▸?_
  induction eZ (a.ps q)<;>decide
theorem Lk (M:Mt w a)(I:Inv a aN)(hi:i<24)(dk:i≠0)(hg:(a.ps i).g=.live r pc)(nC:pc=.X0\/pc=.E1)(Ek:∀j,j<24->(a.ps j).aJ=some i->∀r',(a.ps j).g≠.live r' .B0):
  wb a aN i r (fh w i (vY r)):=by
 refine (I.aJ i hi dk (hg▸(eD rfl))) _ λp hp Pz eI Mp Ca=>?_;have Mm:p≠i:=λe=>Int.lt_irrefl _ (e▸eI);refine (D2 hi dk M I (QS w i) (Ht M I hi hg nC) (λj=>Lg M I hi dk hg nC Ek)) _ λa1 M1 I1 K1 XF Qe XG=>?_;have Li:∀j,j<24->(a1.ps j).aJ≠some i:=λj hj e=>by
  rw [XG j] at e;by_cases h:j∈fR w i
  ·rw [if_pos h] at e;exact dk (Option.some.inj e).symm
  ·rw [if_neg h] at e;exact h (M.D3 I hj e)
 have YW:(a1.ps i).g=.live r pc:=Qe▸hg;have tG:(a1.ps i).aJ=some p:=Qe▸hp;have QX:∀r',(a1.ps p).g≠.fP r':=λr' e=>I1.DU Pz (by refine (e)▸?_;rfl) hi tG;have XH:(a1.ps p).g≠.free:=(K1.g p).1.symm ▸Mp;have e1:fh w i (vY r)=fL (eH w i (vY r)) (uh (.child ((eH w i (vY r)).ps p).aS)) 24:=by unfold fh;rw [(M1.wc I1 hi).trans tG]
 have KW:=K1.trans (ya (a:=a1) (i:=p));have XI:Pe r p (a1.ps p).g:=by rw [hg] at Ca;exact (K1.g p).1.symm ▸Ca
 exact (.mk _ (e1▸(Cb (Ne.symm Mm)▸((M1.aaX hi dk YW).wake (XD I1 (YW▸(eD rfl)) rfl) (i:=p) Pz (by rw [bu Mm];exact XH) (by rw [bu Mm];exact QX)))) (Lh M1 I1 hi dk YW nC tG Pz Mm XH QX Li) (congrArg AP.g bg) (λk hk=>(congrArg AP.g (bu hk)).trans (KW.g k).1) KW.next KW.last KW.fd KW.np (Int.le_trans (Lj M1 YW nC hi Pz Mm tG XI) (Int.sub_le_sub_right XF _)))
end
noncomputable def jE (p:AP)(r:Rl)(pc:PC):AP:=⟨.live r pc,false,p.aS,p.aJ⟩
section
inductive zN:Rl->PC->PC->Prop
 |a:zN .r .R0 .E1
 |b:zN .rl .R0 .E1
 |c:zN .lq .R0 .E1
 |d:zN .lq .L0 .L1
 |e:zN .lq .Q0 .L1
 |f:zN .lq .L1 .L2
 |g:zN .lq .L2 .R0
 |h:zN .b .B1 .B2
 |i:zN .b .B2 .B3
noncomputable def XJ (pc:PC):Int:=DT pc+(if k9 pc=true/\false=false then 1 else 0)
def US.ZF (p:AP)(r:Rl)(pc pc':PC)(Z:Prop):Prop:=∀(f1:nk r pc')(f2:need (.live r pc')=need (.live r pc))(f3:pc'≠.B0)(f4:pc≠.C1)(f5:pc'≠.C1)(f6:cJ (jE p r pc')<=cJ ⟨.live r pc,false,p.aS,p.aJ⟩ - 1)(f7:cU (jE p r pc')=cU ⟨.live r pc,false,p.aS,p.aJ⟩)(f8:dX (jE p r pc')=dX ⟨.live r pc,false,p.aS,p.aJ⟩)(f9:zI (.live r pc')=zI (.live r pc)),Z
def US (p r pc pc'):=∀Z:Prop,US.ZF p r pc pc' Z->Z
theorem US.mk:US.ZF p r pc pc' (US p r pc pc'):=λf1 f2 f3 f4 f5 f6 f7 f8 f9 _ Z=>Z f1 f2 f3 f4 f5 f6 f7 f8 f9
theorem T9 (h:zN r pc pc'):XJ pc'<=XJ pc - 1:=by induction h<;>decide
theorem Ce (m:zN r pc pc'):US p r pc pc':=by
 have f6:=T9 m;induction m<;>exact (.mk (by constructor) rfl (pR rfl) (pR rfl) (pR rfl) f6 rfl rfl rfl)
theorem Ua (m:zN r pc pc')(h:oL (.live r pc) x):oL (.live r pc') x:=by
 have h:=h.fn;induction m with
 |h=>exact (Option.some.inj h)▸.b2
 |i=>exact (Option.some.inj h)▸.b3
 |_=>exact ip rfl h
theorem Ll (I:Inv a aN)(M:Mt w a)(hi:i<24)(dk:i≠0)(hg:(a.ps i).g=.live r pc)(m:zN r pc pc'):Inv (a.set i (jE (a.ps i) r pc')) aN:=by
 refine (Ce (p:=a.ps i) m) _ λf1 f2 f3 f4 f5 _ _ _ f9=>?_;refine I.upd hi rfl rfl (by rw [hg];exact eD rfl) (eD rfl) (by rw [hg];rfl) (λj hj iq Fv hp hr=>?_) (λn hn=>I.ch i n hi (by refine (hg)▸(f2)▸?_;exact hn)) (λh=>by exact Bool.noConfusion h) (λr' h=>by injection h) (r7 I M hi (by rw [hg];exact eD rfl)) (λr' e=>by injection e with _ e;exact absurd e f3)
  (λq Z e=>absurd e dk) (by unfold ln jE;simp only [hg]) (by unfold kF jE;simp only [hg];simp only [if_neg f4,if_neg f5]) (λs=>by unfold dl;rw [hg];refine (?_:cI s (zI (.live r pc'))=_);rw [f9]) (λz e=>by injection e)
 refine aQ (j5 hr) λr' h5 h6=>?_;refine zM h5 ?_;induction h6 with
 |z h=>exact absurd h dk
 |k h7=>exact .k (Ua m (hg▸h7))
end
def kJ.ZF (w w':W)(i:Nat)(P:Pr)(Z:Prop):Prop:=∀(here:w'.ps i=P)(ne:∀k,k≠i->w'.ps k=w.ps k) (next:w'.next=w.next) (last:w'.last=i) (fst:w'.fst=w.fst) (np:w'.eu=w.eu/\w'.dG=w.dG),Z
def kJ (w w' i P):=∀Z:Prop,kJ.ZF w w' i P Z->Z
theorem kJ.mk:kJ.ZF w w' i P (kJ w w' i P):=λhere ne next last fst np _ Z=>Z here ne next last fst np
def kJ.here (Z:kJ w w' i P):=Z _ λhere ne next last fst np=>here
def kJ.ne (Z:kJ w w' i P):=Z _ λhere ne next last fst np=>ne
def kJ.next (Z:kJ w w' i P):=Z _ λhere ne next last fst np=>next
def kJ.last (Z:kJ w w' i P):=Z _ λhere ne next last fst np=>last
def kJ.fst (Z:kJ w w' i P):=Z _ λhere ne next last fst np=>fst
def kJ.np (Z:kJ w w' i P):=Z _ λhere ne next last fst np=>np
section
theorem zO:kJ w (aX w i) i (qd (w.ps i) .aF):=(.mk ah (λk h=>aD h) rfl rfl rfl ⟨rfl,rfl⟩)
theorem kJ.aL (h:kJ w w' i P):kJ w (w'.aL i Q) i Q:=(.mk ah (λk hk=>(aD hk).trans (h.ne k hk)) h.next h.last h.fst h.np)
theorem kJ.km (h:kJ w w' i P):kJ w (w'.km f n) i P:=(.mk h.here h.ne h.next h.last h.fst h.np)
theorem lH:kJ w (bU (aX w i) i jb l) i (gm (qd (w.ps i) .aF) (aO jb l)):=by
 unfold bU;rw [show (aX w i).ps i=qd (w.ps i) .aF from ah];exact zO.aL
theorem kJ.end (h:kJ w w' i P)(hs:P.st=.aF):kJ w (eY w' i) i (qU P):=by
 unfold eY;rw [h.here,if_pos hs];exact h.aL
theorem kJ.aaZ (h:kJ w w' i P)(hs:P.st≠.aF):kJ w (eY w' i) i P:=by
 unfold eY;rw [h.here,if_neg hs];exact h
theorem kJ.mt (h:kJ w w' i P)(M:Mt w a)(hi:i<24)(hp:PM P p a.fd)(hF:fM w')(hz:(i=0/\∃s,p.g=.first s)\/(i≠0/\∀s,p.g≠.first s)):Mt w' ((a.at' i).set i p):=
 M.upd hi (by rw [h.here];exact hp) h.ne h.next h.last h.fst hF h.np hz
end
section
theorem Mt.we (M:Mt w a)(I:Inv a aN)(hi:i<24)(hj:(w.ps i).dq=some jb)(hf:(w.ps i).fl=some sl)(hu:(w.ps i).st≠.ae)(hl:jb.aI.length<300)(HY:a.np<400):Ready (aX w i) i jb sl:=by
 have wY:(aX w i).ps i=qd (w.ps i) .aF:=ah;have hx:∀x,x≠i->(aX w i).ps x=w.ps x:=λx hx=>aD hx;refine (.mk hi (by rw [wY];exact hj) (by rw [wY];nofun) (by rw [wY];exact hf) (M.hF.congr (λx=>?_) rfl rfl) (λx oR hs=>?_) hl (λx oR hs=>?_) (.mk ?_ ?_))
 ·by_cases e:x=i
  ·cases e;rw [wY];rfl
  ·rw [hx x e]
 ·have key:∀x,x<24->(w.ps x).st≠.ae->(w.ps x).aS<w.next:=λx oR hs=>by
   have hf:(a.ps x).g≠.free:=λe=>hs ((M.eQ oR).mpr e);have:=I.gH x oR hf;exact M.next▸lt_eq ((M.ps x oR).aS hf) rfl this
  by_cases e:x=i
  ·subst e;rw [wY];exact key x oR hu
  ·rw [hx x e] at hs ⊢;exact key x oR hs
 ·by_cases e:x=i
  ·cases e;replace hs:=(wY)▸hs;cases hs
  ·rw [hx x e] at hs ⊢
   rw [show w.ps x=kP from (M.ps x oR).at ((M.eQ oR).mp hs)];rfl
 ·refine (?_:w.eu<900)
  rw [M.np.1];exact Nat.lt_of_lt_of_le ‹_› (by decide)
 ·refine (?_:w.dG<1000)
  rw [M.np.2];grind only
end
section
theorem pF (h:fM w):fM (bU (aX w i) i jb l):=h.congr (λx=>by
 by_cases e:x=i
 ·subst e;rw [show (bU (aX w x) x jb l).ps x=_ from ah,show (aX w x).ps x=_ from ah];rfl
 ·rw [show (bU (aX w i) i jb l).ps x=_ from aD e,show (aX w i).ps x=_ from aD e]) rfl rfl
theorem wg:((bU (aX w i) i jb l).ps i).fl=(w.ps i).fl:=by
 rw [show (bU (aX w i) i jb l).ps i=_ from ah,show (aX w i).ps i=_ from ah];rfl
def nF (P:Pr)(jb:Jb)(l:List rN)(sl:ON):Pr:=qU (gm (mS (qd P .aF) (some sl)) (aO jb l))
theorem Hu (hi:i<24)(hF:fM w)(gQ:(w.ps i).fl=some sl)(h1:sl[n]?=some (some f)):
  kJ w (eY (gk (bU (aX w i) i jb l) i n f sl) i) i (nF (w.ps i) jb l (sl.set n none))/\fM (eY (gk (bU (aX w i) i jb l) i n f sl) i):=by
 have hu:kJ w (gk (bU (aX w i) i jb l) i n f sl) i (mS (gm (qd (w.ps i) .aF) (aO jb l)) (some (sl.set n none))):=by
  refine kJ.km ?_;refine (show (bU (aX w i) i jb l).ps i=gm (qd (w.ps i) .aF) (aO jb l) from lH.here)▸?_;exact lH.aL
 have hF1:=(pF (jb:=jb) (l:=l) (i:=i) hF).close hi (by rw [wg];exact gQ) h1;refine ⟨hu.end rfl,hF1.congr (λx=>?_) (by unfold eY;split<;>rfl) (by unfold eY;split<;>rfl)⟩;unfold eY;split
 ·by_cases e:x=i
  ·refine e▸?_;simp only [ah];rfl
  ·rw [aD e]
 ·rfl
theorem pG (h:fM w):fM (eY w i):=h.congr (λx=>by
 unfold eY;split
 ·by_cases e:x=i
  ·refine e▸?_;rw [ah];rfl
  ·rw [aD e]
 ·rfl) (by unfold eY;split<;>rfl) (by unfold eY;split<;>rfl)
theorem Lm (hF:fM w)(gQ:(w.ps i).fl=some sl):
  kJ w (eY ((bU (aX w i) i jb l).aL i (gm ((bU (aX w i) i jb l).ps i) (aO (aO jb l) l'))) i) i (nF (w.ps i) jb l' sl)/\fM (eY ((bU (aX w i) i jb l).aL i (gm ((bU (aX w i) i jb l).ps i) (aO (aO jb l) l'))) i):=by
 have hu:kJ w ((bU (aX w i) i jb l).aL i (gm ((bU (aX w i) i jb l).ps i) (aO (aO jb l) l'))) i (gm (qd (w.ps i) .aF) (aO jb l')):=by
  rw [show (bU (aX w i) i jb l).ps i=gm (qd (w.ps i) .aF) (aO jb l) from lH.here];exact lH.aL
 refine ⟨?_,pG ((pF (jb:=jb) (l:=l) (i:=i) hF).congr (λx=>?_) rfl rfl)⟩
 ·have:=hu.end rfl
  have e:qU (gm (qd (w.ps i) .aF) (aO jb l'))=nF (w.ps i) jb l' sl:=by
   delta nF qU gm mS qd;simp only [gQ]
  simp only [e] at this;exact this
 ·by_cases e:x=i
  ·refine e▸?_;simp only [ah];rfl
  ·rw [aD e]
theorem Ln (hi:i<24)(hF:fM w)(gQ:(w.ps i).fl=some sl)(h1:sl[d]?=some (some f))(h2:sl[o]?=some (some f'))(dw:o≠d):
  kJ w (eY (xX (bU (aX w i) i jb l) i d f f' sl) i) i (nF (w.ps i) jb l (sl.set d (some f')))/\fM (eY (xX (bU (aX w i) i jb l) i d f f' sl) i):=by
 have hc:(gk (bU (aX w i) i jb l) i d f sl).ps i=mS (gm (qd (w.ps i) .aF) (aO jb l)) (some (sl.set d none)):=by
  rw [vO,show (bU (aX w i) i jb l).ps i=gm (qd (w.ps i) .aF) (aO jb l) from lH.here]
 have hu:kJ w (xX (bU (aX w i) i jb l) i d f f' sl) i (mS (gm (qd (w.ps i) .aF) (aO jb l)) (some (sl.set d (some f')))):=by
  refine kJ.km ?_;rw [hc,List.set_set];have:kJ w (gk (bU (aX w i) i jb l) i d f sl) i (mS (gm (qd (w.ps i) .aF) (aO jb l)) (some (sl.set d none))):=by
   refine kJ.km ?_;rw [show (bU (aX w i) i jb l).ps i=gm (qd (w.ps i) .aF) (aO jb l) from lH.here];exact lH.aL
  exact this.aL
 have Kx:((gk (bU (aX w i) i jb l) i d f sl).ps i).fl=some (sl.set d none):=by rw [hc];rfl
 have hF2:=((pF (jb:=jb) (l:=l) (i:=i) hF).close hi (by rw [wg];exact gQ) h1).dup (n:=d) (f:=f') hi Kx (List.getElem?_set_self (jD h1)) (((pF (jb:=jb) (l:=l) (i:=i) hF).close hi (by rw [wg];exact gQ) h1).one hi Kx (n:=o) (by rw [List.getElem?_set_ne (Ne.symm dw)];exact h2)).1;exact ⟨hu.end rfl,pG hF2⟩
end
section
theorem zP (h:PM P p fd)(hg:p.g=.live r pc)(hf:nk r pc')(hm:mask pc' sl)(hl:jb.bl.length+DS pc'<=9):PM (nF P jb (qh pc') sl) (jE p r pc') fd:=by
 exact (.mk hf ((h.at hg).aS) ((h.at hg).aJ) (.mk _ rfl rfl hl) (.mk sl rfl hm) rfl)
end
def tm.ZF (w:W)(i:Nat)(r:Rl)(pc:PC)(Z:Prop):Prop:=∀(jb:Jb)(sl:ON)(hj:(w.ps i).dq=some jb)(d0:jb.aI=qh pc)(hl:jb.bl.length+DS pc<=9)(hf:(w.ps i).fl=some sl)(hm:mask pc sl)(fit:nk r pc),Z
def tm (w i r pc):=∀Z:Prop,tm.ZF w i r pc Z->Z
theorem tm.mk:tm.ZF w i r pc (tm w i r pc):=λjb sl hj d0 hl hf hm fit _ Z=>Z jb sl hj d0 hl hf hm fit
theorem Mt.live (M:Mt w a)(hi:i<24)(hg:(a.ps i).g=.live r pc):tm w i r pc:=by
 refine ((M.ps i hi).at hg) _ λh1 _ _ q75 q76 _=>?_;refine q75 _ λjb h4 h5 h6=>?_;refine q76 _ λsl h7 h8=>?_;exact (.mk jb sl h4 h5 h6 h7 h8 h1)
theorem mn:∀{L:List (Nat×Nat)}{w:W},(w.lG L).last=w.last
 |[],_=>rfl
 |p::L,w=>mn (L:=L) (w:=w.km p.2 (w.bP p.2+1))
inductive iK (bf z:Int)(a:A):Prop
 |t (h:(a.ps 0).g=.first (.cN z)) (n:a.next=bf)
 |u (h:(a.ps 0).g=.first (.until bf)) (r:Rl) (k:Nat) (hk:k<24) (qT:k≠0) (hr:bR (a.ps k).g=some r) (hl:qK r=1) (hs:vY r=fO z)
 |d (h:(a.ps 0).g=.first .nil) (hm:(bf,fO z)∈a.fd)
 |e (h:(a.ps 0).g=.first .nil) (hz:z=-1)
def Out.ZF (a:A)(aN:List Int)(w':W)(Z:Prop):Prop:=∀(a':A)(M:Mt w' a')(I:Inv a' aN)(N:NB a')(cJ:a'.S cJ<=a.S cJ - 1)(cU:a'.S cU<=a.S cU)(pf:(a'.np:Int)+a'.S dX<=a.np+a.S dX)(ln:∀bf z,iK bf z a->iK bf z a'),Z
def Out (a aN w'):=∀Z:Prop,Out.ZF a aN w' Z->Z
theorem Out.mk:Out.ZF a aN w' (Out a aN w'):=λa' M I N cJ cU pf ln _ Z=>Z a' M I N cJ cU pf ln
def FD.ZF (a:A)(Z:Prop):Prop:=∀(np:(a.np:Int)+a.S dX<=8)(cU:a.S cU<=20)(fd:a.fd.length<=64),Z
def FD (a):=∀Z:Prop,FD.ZF a Z->Z
theorem FD.mk:FD.ZF a (FD a):=λnp cU fd _ Z=>Z np cU fd
def FD.np (Z:FD a):=Z _ λnp cU fd=>np
def FD.cU (Z:FD a):=Z _ λnp cU fd=>cU
def FD.fd (Z:FD a):=Z _ λnp cU fd=>fd
section
theorem XM (h:PM P p fd)(hg:∀s,p.g≠.first s):PM P p fd':=by
 induction e:p.g with
 |first s=>exact absurd e (hg s)
 |_=>exact .Pa e (h.at e)
theorem Mt.chg (M:Mt w a)(h:∀k,k<24->(w'.ps k=w.ps k/\a'.ps k=a.ps k/\(k=0->a'.fd=a.fd))\/(PM (w'.ps k) (a'.ps k) a'.fd/\((∃s,(a'.ps k).g=.first s)↔k=0)))
  (hn:w'.next=a'.next) (hl:w'.last=a'.last) (hf:w'.fst=some 0) (hF:fM w') (hp:w'.eu=a'.np/\w'.dG=2*a'.np):Mt w' a':=by
 refine (.mk (λk hk=>?_) ?_ (λk hk qT s e=>?_) hn hl hf hF hp)
 ·rcases h k hk with hz|h
  ·refine gC hz λh1 h2 h3=>?_
   simp only [h1,h2];by_cases e:k=0
   ·simp only [h3 e];exact M.ps k hk
   ·exact XM (M.ps k hk) (M.nz k hk e)
  ·exact h.1
 ·rcases h 0 (by decide) with hz|h
  ·rw [hz.2.1];exact M.z
  ·exact h.2.mpr rfl
 ·rcases h k hk with hz|h
  ·have h2:=hz.2.1
   rw [h2] at e;exact M.nz k hk qT s e
  ·exact qT (h.2.mp ⟨s,e⟩)
theorem j6 (h0:(a'.ps 0).g=(a.ps 0).g)(vX:a'.fd=a.fd)(QW:a'.next=a.next\/∀z,(a.ps 0).g≠.first (.cN z)) (Xl:∀k r,k<24->bR (a.ps k).g=some r->qK r=1->bR (a'.ps k).g=some r) (bf z:Int) (h:iK bf z a):iK bf z a':=by
 induction h with
 |t h n=>
  rcases QW with e|e
  ·exact .t (h0.trans h) (e.trans n)
  ·exact absurd h (e z)
 |u h r k hk qT hr hl hs=>exact .u (h0.trans h) r k hk qT (Xl k r hk hr hl) hl hs
 |d h hm=>exact .d (h0.trans h) (vX▸hm)
 |e h hz=>exact .e (h0.trans h) hz
theorem FE {s s':FS}(h:PM P p fd)(hg:p.g=.first s)(hs:jb.bl=fd')(hm:M3 sl):PM (nF P jb (YT s') sl) ⟨.first s',false,p.aS,p.aJ⟩ fd':=by
 exact (.mk ((h.at hg).aS) ((h.at hg).pS) ((h.at hg).aJ) (.mk _ rfl rfl hs) (.mk sl rfl hm) rfl)
theorem Lo:∀pc,DS pc<=9
 |.R0|.E1|.X0|.K0|.C0|.C1|.C2|.B0|.B1|.B2|.B3|.B4|.L0|.Q0|.L1|.L2=>by decide
theorem mY:∀pc,(qh pc).length<300
 |.R0|.E1|.X0|.K0|.C0|.C1|.C2|.B0|.B1|.B2|.B3|.B4|.L0|.Q0|.L1|.L2=>by decide
theorem zQ (hf:nk r pc)(hm:mask pc sl):PM (gm (kz n i sl) ⟨ja,qh pc,[],0⟩) ⟨.live r pc,false,n,some i⟩ fd:=
 (.mk hf rfl rfl (.mk _ rfl rfl (by show 0+_<=_;rw [Nat.zero_add];exact Lo pc)) (.mk sl rfl hm) rfl)
def pH.ZF (w:W)(s:FS)(fd:List (Int×Int))(Z:Prop):Prop:=∀(jb:Jb)(sl:ON)(hj:(w.ps 0).dq=some jb)(d0:jb.aI=YT s)(hs:jb.bl=fd)(hf:(w.ps 0).fl=some sl)(hm:M3 sl),Z
def pH (w s fd):=∀Z:Prop,pH.ZF w s fd Z->Z
theorem pH.mk {s}:pH.ZF w s fd (pH w s fd):=λjb sl hj d0 hs hf hm _ Z=>Z jb sl hj d0 hs hf hm
theorem Mt.r9 {s:FS}(M:Mt w a)(hg:(a.ps 0).g=.first s):pH w s a.fd:=by
 refine ((M.ps 0 (by decide)).at hg) _ λ_ _ _ q77 q78 _=>?_;refine q77 _ λjb h4 h5 h6=>?_;refine q78 _ λsl h7 h8=>?_;exact (.mk jb sl h4 h5 h6 h7 h8)
def xf.ZF (w w':W)(i c:Nat)(P Q:Pr)(Z:Prop):Prop:=∀(eV:w'.ps i=P)(at2:w'.ps c=Q)(ne:∀k,k≠i->k≠c->w'.ps k=w.ps k) (hF:fM w') (last:w'.last=i) (fst:w'.fst=some (w.fst.getD c)) (np:w'.eu=w.eu/\w'.dG=w.dG),Z
def xf (w w' i c P Q):=∀Z:Prop,xf.ZF w w' i c P Q Z->Z
theorem xf.mk:xf.ZF w w' i c P Q (xf w w' i c P Q):=λeV at2 ne hF last fst np _ Z=>Z eV at2 ne hF last fst np
def xf.eV (Z:xf w w' i c P Q):=Z _ λeV at2 ne hF last fst np=>eV
def xf.at2 (Z:xf w w' i c P Q):=Z _ λeV at2 ne hF last fst np=>at2
def xf.ne (Z:xf w w' i c P Q):=Z _ λeV at2 ne hF last fst np=>ne
def xf.hF (Z:xf w w' i c P Q):=Z _ λeV at2 ne hF last fst np=>hF
def xf.last (Z:xf w w' i c P Q):=Z _ λeV at2 ne hF last fst np=>last
def xf.fst (Z:xf w w' i c P Q):=Z _ λeV at2 ne hF last fst np=>fst
def xf.np (Z:xf w w' i c P Q):=Z _ λeV at2 ne hF last fst np=>np
theorem qN (h:j≠i):(eY w i).ps j=w.ps j:=by
 unfold eY;split
 ·exact aD h
 ·rfl
theorem D4 (h:(w.ps i).st=.aF):(eY w i).ps i=qU (w.ps i):=by
 unfold eY;rw [if_pos h];exact ah
theorem PA (h:(w.ps i).st≠.aF):eY w i=w:=by
 unfold eY;rw [if_neg h]
theorem wi {f:W->α}(h:∀(w:W)(P:Pr),f (w.aL i P)=f w):f (eY w i)=f w:=by
 unfold eY;split
 ·exact h _ _
 ·rfl
theorem sa:(bU (aX w i) i jb l).ps i=gm (qd (w.ps i) .aF) (aO jb l):=lH.here
theorem gq (h:j≠i):(bU (aX w i) i jb l).ps j=w.ps j:=lH.ne j h
theorem PB (gQ:P.fl=some sl):qU (gm (gm (qd P .aF) (aO jb l)) B5)=nF P B5 B5.aI sl:=by
 delta nF qU gm mS qd aO;simp only [gQ]
theorem Hv (Y:Ready (aX w i) i jb sl)(hl:sl.length=6)(gQ:(w.ps i).fl=some sl)(hL:l.length<300)(hc:c<24)(j4:(w.ps c).st=.ae)(fG:c≠i):
  xf w (eY (dr (bU (aX w i) i jb l) i c sl (aO jb l) ja st st2) i) i c (nF (w.ps i) (d8 jb w.next) (st2++l) sl) (gm (kz w.next i sl) ⟨ja,st,[],0⟩)/\
   (eY (dr (bU (aX w i) i jb l) i c sl (aO jb l) ja st st2) i).next=w.next+1:=by
 have HX:((bU (aX w i) i jb l).ps c).st=.ae:=by rw [gq fG];exact j4
 have hi:i<24:=Y.hi;have ei:(dr (bU (aX w i) i jb l) i c sl (aO jb l) ja st st2).ps i=gm (gm (qd (w.ps i) .aF) (aO jb l)) (aO (d8 (aO jb l) w.next) (st2++l)):=by
  unfold dr;rw [ah,sa];rfl
 have ec:(dr (bU (aX w i) i jb l) i c sl (aO jb l) ja st st2).ps c=gm (kz w.next i sl) ⟨ja,st,[],0⟩:=by
  unfold dr;rw [aD fG,kC fG];rfl
 have ek:∀k,k≠i->k≠c->(dr (bU (aX w i) i jb l) i c sl (aO jb l) ja st st2).ps k=w.ps k:=λk h h'=>by
  unfold dr;rw [aD h,gA h h',gq h]
 have hw:∀{α:Type}(f:W->α),(∀(w:W)(i:Nat)(P:Pr),f (w.aL i P)=f w)->(∀(w:W) L,f (w.lG L)=f w)->f (eY (dr (bU (aX w i) i jb l) i c sl (aO jb l) ja st st2) i)=f ({(aX w i) with next:=w.next+1,fst:=some (w.fst.getD c),ps:=(bU (aX w i) i jb l).ps}:W):=λf h h'=>by
  rw [wi (λw P=>h w i P)];delta dr eX d6;simp only [h,h,h,h,h'];rfl
 refine ⟨(.mk ?_ ?_ (λk h h'=>?_) (pG ?_) ?_ ?_ ⟨?_,?_⟩),?_⟩
 ·rw [D4 (by rw [ei];rfl),ei,PB gQ];rfl
 ·rw [qN fG];exact ec
 ·rw [qN h];exact ek k h h'
 ·refine ((Y.pop hL).child (ja:=ja) (st:=st) hl hc HX).hF.congr (λx=>?_) rfl rfl
  unfold dr;by_cases e:x=i
  ·refine e▸?_;simp only [ah,fN];rfl
  ·rw [aD e]
 ·exact hw (λw=>w.last) (λZ Z Z=>rfl) (λZ Z=>mn)
 ·exact hw (λw=>w.fst) (λZ Z Z=>rfl) (λw L=>bE.2.2.1)
 ·exact hw (λw=>w.eu) (λZ Z Z=>rfl) (λw L=>bE.2.2.2.2.2)
 ·exact hw (λw=>w.dG) (λZ Z Z=>rfl) (λw L=>bE.2.2.2.2.1)
 ·exact hw (λw=>w.next) (λZ Z Z=>rfl) (λw L=>bE.2.2.2.1)
end
noncomputable def W.at' (w:W)(l:Nat):W:={w with last:=l}
def Tn.ZF (w:W)(a:A)(aN:List Int)(i:Nat)(Z:Prop):Prop:=∀(M:Mt w a)(I:Inv a aN)(N:NB a)(hn:pQ w i)(C:FD a),Z
def Tn (w a aN i):=∀Z:Prop,Tn.ZF w a aN i Z->Z
theorem Tn.mk:Tn.ZF w a aN i (Tn w a aN i):=λM I N hn C _ Z=>Z M I N hn C
def Tn.M (Z:Tn w a aN i):=Z _ λM I N hn C=>M
def Tn.I (Z:Tn w a aN i):=Z _ λM I N hn C=>I
def Tn.N (Z:Tn w a aN i):=Z _ λM I N hn C=>N
def Tn.hn (Z:Tn w a aN i):=Z _ λM I N hn C=>hn
def Tn.C (Z:Tn w a aN i):=Z _ λM I N hn C=>C
def gr.ZF (w:W)(a:A)(aN:List Int)(i:Nat)(Z:Prop):Prop:=∀(pre:e8 w i)(out:∀w',oG w i w'->Out a aN w'),Z
def gr (w a aN i):=∀Z:Prop,gr.ZF w a aN i Z->Z
theorem gr.mk:gr.ZF w a aN i (gr w a aN i):=λpre out _ Z=>Z pre out
def gr.pre (Z:gr w a aN i):=Z _ λpre out=>pre
def gr.out (Z:gr w a aN i):=Z _ λpre out=>out
def XN (w:W)(i:Nat)(j:Jb)(sl:ON)(G:W->Bool->Prop):rN->Prop
 |.run .run=>G (w.aL i (gm (w.ps i) (aO j (.exit 1::j.aI)))) true
 |.run (.back t)=>∀c ja,c<24->(w.ps c).st=.ae->G (dr w i c sl j ja [.run t] [.exit 0]) true
 |.run (.semi l r)=>∀c ja,c<24->(w.ps c).st=.ae->G (dr w i c sl j ja [.run l] [.wait,.run r]) true
 |.run (.pipe l r)=>∀f1 f2 c1 c2 wC x7,f1∉w.fs->f2∉w.fs->f2≠f1->c1<24->(w.ps c1).st=.ae->c2<24->(w.ps c2).st=.ae->c2≠c1->G (BY w i f1 f2 c1 c2 wC x7 sl j l r) true
 |.cN t=>∀c ja,c<24->(w.ps c).st=.ae->G (dr w i c sl j ja [.run t] [.until w.next]) true
 |.lead d o=>∀d' o' f f':Nat,d=d'->o=o'->sl[d']?=some (some f)->sl[o']?=some (some f')->G (xX w i d' f f' sl) true
 |.close n=>∀n' f:Nat,n=n'->sl[n']?=some (some f)->G (gk w i n' f sl) true
 |.wait=>(∀c,c<24->eB w i c=true->(w.ps c).st=.bc->G (oD w i c j) (hit none (w.ps c).aS))/\((∀c,c<24->eB w i c=true->(w.ps c).st≠.bc)->G (w.aL i (oF (w.ps i))) false)
 |.until p=>(∀c,c<24->eB w i c=true->(w.ps c).st=.bc->G (oD w i c j) (hit (some p) (w.ps c).aS))/\((∀c,c<24->eB w i c=true->(w.ps c).st≠.bc)->G (w.aL i (oF (w.ps i))) false)
 |.exit s=>∀h sl',fM (gR w i h sl')->G (fh (gR w i h sl') i s) true
theorem zA.all (D:zA w i j sl s w' b):XN w i j sl G s->G w' b:=by
 induction D with
 |prog=>exact id
 |back t c ja hc hu=>exact λh=>h c ja hc hu
 |semi l r c ja hc hu=>exact λh=>h c ja hc hu
 |pipe l r f1 f2 c1 c2 wC x7 q1 q2 q3 h1 YL h2 YM TB=>exact λh=>h f1 f2 c1 c2 wC x7 q1 q2 q3 h1 YL h2 YM TB
 |cN t c ja hc hu=>exact λh=>h c ja hc hu
 |lead d o f f' h1 h2=>exact λh=>h d o f f' rfl rfl h1 h2
 |close n f h1=>exact λh=>h n f rfl h1
 |Fj _ z c hs hc hi hz=>
  rcases hs with hz|hz
  ·obtain ⟨rfl,rfl⟩:=hz
   exact λh=>h.1 c hc hi hz
  ·obtain ⟨p,rfl,rfl⟩:=hz
   exact λh=>h.1 c hc hi hz
 |Fm _ hn hs=>
  rcases hs with rfl|hz
  ·exact λh=>h.2 hn
  ·obtain ⟨p,rfl⟩:=hz
   exact λh=>h.2 hn
 |exit s h sl' hF=>exact λH=>H h sl' hF
section
variable {p k:AP}
theorem wj:0<=dX p:=by
 unfold dX;induction p.g with
 |free=>exact Int.le_refl 0
 |fP r=>exact Int.le_refl 0
 |live r pc=>induction pc<;>first|exact Int.le_refl 0|exact (by decide:(0:Int)<=1)
 |first s=>induction s<;>first|exact Int.le_refl 0|exact (by decide:(0:Int)<=1)
theorem FD.XO (C:FD a):a.np<9:=by
 have h:=C.np;have:0<=a.S dX:=pD 24 (λj Z=>wj);omega
theorem Mt.at (M:Mt w a):Mt (w.at' i) (a.at' i):=(.mk M.ps M.z M.nz M.next rfl M.fst (M.hF.congr (λZ=>rfl) rfl rfl) M.np)
theorem Tn.hu (T:Tn w a aN i):(w.ps i).st≠.ae:=by rw [T.hn.2.1];nofun
theorem Tn.I' (T:Tn w a aN i):Inv (a.at' i) aN:=T.I.at T.M T.N T.hn
theorem qj (T:Tn w a aN i)(hj:(w.ps i).dq=some jb)(d0:jb.aI=s::rest)(hf:(w.ps i).fl=some sl)(hl:jb.aI.length<300)(hP:Pre (bU (aX w i) i jb rest) i (aO jb rest) sl s)
  (hD:XN (bU (aX w i) i jb rest) i (aO jb rest) sl (λw1 b=>Out a aN (eY (if b then w1 else k8 w1 i s) i)) s):gr w a aN i:=by
 have HY:=T.C.XO;refine (.mk (.mk ⟨jb,sl,T.M.we T.I T.hn.1 hj hf T.hu hl (by exact Nat.lt_of_lt_of_le ‹_› (by decide)),.inr ⟨s,rest,d0,hP⟩⟩) (λw' R=>?_));induction R with
 |idle B5 h0 k0 hs=>
  replace k0:=(hj)▸k0;cases k0;replace hs:=(d0)▸hs;injection hs
 |step B5 sl' s' acx w1 b k0 pz wH D=>
  replace k0:=(hj)▸k0;replace pz:=(hf)▸pz;cases k0;cases pz;replace wH:=(d0)▸wH;cases wH;exact D.all hD
theorem PD (T:Tn w a aN i)(dk:i≠0)(M':Mt w' ((a.at' i).set i p))(I':Inv ((a.at' i).set i p) aN)(hb:∀r,p.g≠.live r .B0) (Ub:cJ p<=cJ (a.ps i) - 1) (XQ:cU p<=cU (a.ps i)) (Mp:dX p<=dX (a.ps i)) (Xl:bR p.g=bR (a.ps i).g):Out a aN w':=by
 have hS:∀f,((a.at' i).set i p).S f=a.S f+f p - f (a.ps i):=λf=>ij (a:=a.at' i) T.hn.1;refine (.mk _ M' I' (λr=>?_) ?_ ?_ ?_ (j6 ?_ rfl (.inl rfl) λk r hk hr Z=>?_))
 ·refine (?_:(((a.at' i).set i p).ps i).g≠_)
  rw [bg];exact hb r
 ·rw [hS];omega
 ·rw [hS];omega
 ·rw [hS]
  refine (?_:(a.np:Int)+_<=_);grind only
 ·rw [bu (Ne.symm dk)];rfl
 ·by_cases e:k=i
  ·subst e;rw [bg,Xl];exact hr
  ·rw [bu e];exact hr
theorem mq (hg:p.g=.live r pc)(hs:p.sl=false):p=⟨.live r pc,false,p.aS,p.aJ⟩:=by
 induction p;subst hg;subst hs;rfl
theorem Lp (m:zN r pc pc'):k9 pc=false:=by induction m<;>rfl
theorem Uc (m:zN r pc pc'):DS pc'=DS pc:=by induction m<;>rfl
theorem D5 (T:Tn w a aN i)(dk:i≠0)(hg:(a.ps i).g=.live r pc)(Mq:zN r pc pc')(U:kJ w w' i (nF (w.ps i) jb (qh pc') sl)/\fM w')(hm:mask pc' sl)(hl:jb.bl.length+DS pc<=9):Out a aN w':=by
 have hi:=T.hn.1;refine (Ce (p:=a.ps i) Mq) _ λf1 _ f3 _ _ f6 f7 f8 _=>?_;have e:=mq hg (T.M.v8 hi hg (Lp Mq)).2;rw [<- e] at f6 f7 f8;exact PD T dk (U.1.mt T.M hi (zP (T.M.ps i hi) hg f1 hm (by rw [Uc Mq];exact hl):PM (nF (w.ps i) jb (qh pc') sl) (jE (a.ps i) r pc') a.fd) U.2 (.inr ⟨dk,(λZ=>eD rfl)⟩)) (Ll T.I' T.M.at hi dk hg Mq) (λr' e=>by cases e;exact f3 rfl) f6 (by rw [f7];exact Int.le_refl _) (by rw [f8];exact Int.le_refl _) (by rw [hg];rfl)
theorem Lq (T:Tn w a aN i)(dk:i≠0)(hg:(a.ps i).g=.live r .R0)(Mq:zN r .R0 .E1):gr w a aN i:=by
 refine (T.M.live T.hn.1 hg) _ λjb sl hj d0 hl hf hm _=>?_;refine qj T hj d0 hf (by rw [d0];exact mY _) trivial ?_;exact D5 T dk hg Mq (Lm T.M.hF hf) hm hl
theorem Lr (T:Tn w a aN i)(dk:i≠0)(hg:(a.ps i).g=.live r pc){d o:Nat}(nC:qh pc=.lead d o::qh .L1)(Mq:zN r pc .L1)(hm5:mask pc=M5)(hdo:(d=1/\o=4)\/(d=0/\o=3)):gr w a aN i:=by
 refine (T.M.live T.hn.1 hg) _ λjb sl hj d0 hl hf hm _=>?_;have hlen:jb.aI.length<300:=by rw [d0];exact mY _
 rw [hm5] at hm;replace d0:=(nC)▸d0;have dw:o≠d:=by grind only
 refine Qc hm λx0 x1 x2 x3 x4 dp=>?_;subst dp;refine qj T hj d0 hf hlen ⟨d,o,?_⟩ λd' o' f f' e1 e2 h1 h2=>?_
 ·rcases hdo with hz|hz
  ·obtain ⟨rfl,rfl⟩:=hz
   exact ⟨x1,x4,rfl,rfl,rfl,rfl,by decide,λb hb=>by cases Nat.lt_one_iff.mp hb;exact ⟨x0,rfl⟩⟩
  ·obtain ⟨rfl,rfl⟩:=hz
   exact ⟨x0,x3,rfl,rfl,rfl,rfl,by decide,λb hb=>absurd hb (Nat.not_lt_zero _)⟩
 ·cases Int.ofNat.inj e1
  cases Int.ofNat.inj e2;refine D5 T dk hg Mq (Ln T.hn.1 T.M.hF hf h1 h2 dw) ?_ hl;rcases hdo with hz|hz
  ·obtain ⟨rfl,rfl⟩:=hz
   exact ⟨x0,f',x2,x3,x4,rfl⟩
  ·obtain ⟨rfl,rfl⟩:=hz
   exact ⟨f',x1,x2,x3,x4,rfl⟩
theorem uv (T:Tn w a aN i)(dk:i≠0)(hg:(a.ps i).g=.live r pc){n:Nat}(nC:qh pc=.close n::qh pc')(Mq:zN r pc pc')(hs:(mask pc=M5/\mask pc'=M4/\n=3)\/(mask pc=M4/\mask pc'=M3/\n=4)):gr w a aN i:=by
 refine (T.M.live T.hn.1 hg) _ λjb sl hj d0 hl hf hm _=>?_;have hlen:jb.aI.length<300:=by rw [d0];exact mY _
 simp only [nC] at d0;have XR:(∃f,sl[n]?=some (some f))/\mask pc' (sl.set n none):=by
  rcases hs with hz|hz
  ·obtain ⟨h1,h2,rfl⟩:=hz
   rw [h1] at hm;rw [h2];refine Qc hm λx0 x1 x2 x3 x4 dp=>?_;subst dp;exact ⟨⟨x3,rfl⟩,x0,x1,x2,x4,rfl⟩
  ·obtain ⟨h1,h2,rfl⟩:=hz
   rw [h1] at hm;rw [h2];refine UY hm λx0 x1 x2 x4 dp=>?_;subst dp;exact ⟨⟨x4,rfl⟩,x0,x1,x2,rfl⟩
 obtain ⟨⟨f,hf1⟩,hmk⟩:=XR;refine qj T hj d0 hf hlen ⟨n,f,rfl,hf1⟩ λn' f e1 h1=>?_;cases Int.ofNat.inj e1;exact D5 T dk hg Mq (Hu T.hn.1 T.M.hF hf h1) hmk hl
end
noncomputable def W.Cf (w:W)(h:Nat->Int):W:={w with bP:=h}
section
theorem D6:adopt (w.Cf h) j=(adopt w j).Cf h:=by
 unfold adopt;by_cases hz:(w.ps j).st=.bc
 ·rw [if_pos hz,if_pos (show ((w.Cf h).ps j).st=_ from hz)];rfl
 ·rw [if_neg hz,if_neg (show ¬((w.Cf h).ps j).st=_ from hz)];rfl
theorem tV:∀{w:W},cb (w.Cf h) L=(cb w L).Cf h:=by
 induction L with
 |nil=>exact rfl
 |cons j L ih=>exact (congrArg (λw=>cb w L) D6).trans ih
theorem Hw:fh (w.Cf h) i z=(fh w i z).Cf h:=by
 have e:eH (w.Cf h) i z=(eH w i z).Cf h:=by
  unfold eH;rw [show fR (w.Cf h) i=fR w i from rfl,tV];rfl
 have e2:((cb (w.Cf h) (fR (w.Cf h) i)).ps i).aJ=((cb w (fR w i)).ps i).aJ:=by
  rw [show fR (w.Cf h) i=fR w i from rfl,tV];rfl
 unfold fh;rw [e2,e];induction ((cb w (fR w i)).ps i).aJ<;>rfl
theorem Ls:((adopt w j).ps q).fl=(w.ps q).fl:=by
 have key:((w.aL j (w9 (w.ps j) (some 0))).ps q).fl=(w.ps q).fl:=by
  by_cases e:q=j
  ·subst e;rw [ah];rfl
  ·rw [aD e]
 unfold adopt;split
 ·refine Eq.trans ?_ key
  refine (?_:(if q<24/\bL _ ((w.aL j _).ps q)=true then qU ((w.aL j _).ps q) else (w.aL j _).ps q).fl=_);split<;>rfl
 ·exact key
theorem yc:∀{L:List Nat}{w:W},((cb w L).ps q).fl=(w.ps q).fl
 |[],_=>rfl
 |j::L,w=>(yc (L:=L)).trans Ls
theorem yd:∀{L:List Nat}{w:W},(cb w L).fs=w.fs
 |[],_=>rfl
 |j::L,w=>(yd (L:=L)).trans (by unfold adopt;split<;>rfl)
theorem FG:((fh w i z).ps q).fl=(w.ps q).fl:=by
 have h1:((eH w i z).ps q).fl=(w.ps q).fl:=by
  refine Eq.trans ?_ (yc (L:=fR w i));unfold eH;by_cases e:q=i
  ·subst e;rw [ah];rfl
  ·rw [aD e]
 unfold fh;induction ((cb w (fR w i)).ps i).aJ with
 |none=>exact h1
 |some p=>
  refine Eq.trans ?_ h1;refine (?_:(if q<24/\bL _ ((eH w i z).ps q)=true then qU ((eH w i z).ps q) else (eH w i z).ps q).fl=_);split<;>rfl
theorem FH:(fh w i z).fs=w.fs:=by
 refine Eq.trans ?_ (yd (L:=fR w i));unfold fh;induction ((cb w (fR w i)).ps i).aJ<;>rfl
theorem ye (dk:i≠0)(h:(w.ps i).st≠.aU)(hu:(w.ps i).st≠.ae)(hs:(w.ps i).aJ≠some i)(q1:Q.st≠.aU)(q2:Q.st≠.ae)(q3:Q.aJ=(w.ps i).aJ):fh (w.aL i Q) i z=(fh w i z).aL i (qe Q z):=by
 have hL:∀j,j∈fR w i->j≠i:=λj hj e=>by
  subst e;have:=(kx hj).2;unfold eB at this;simp only [decide_eq_false hs,Bool.and_false] at this;exact Bool.noConfusion this
 have ⟨e1,e2⟩:=Cc (w:=w) (Q:=Q) dk q1 hL h;have e3:eH (w.aL i Q) i z=(eH w i z).aL i (qe Q z):=by
  unfold eH;simp only [(Cd q3 q2 hu:fR (w.aL i Q) i=fR w i),e1,ah,dn,dn]
 unfold fh;rw [e3,(Cd q3 q2 hu:fR (w.aL i Q) i=fR w i),e1,ah,e2,q3];induction hp:(w.ps i).aJ with
 |none=>rfl
 |some p=>
  refine (?_:fL ((eH w i z).aL i (qe Q z)) (uh (.child (((eH w i z).aL i (qe Q z)).ps p).aS)) 24=_);rw [aD (λe=>hs (hp.trans (congrArg some e)):p≠i)];exact wa (by unfold eH;rw [ah];nofun) nofun
theorem PE (dk:i≠0)(h:(w.ps i).st≠.aU)(hu:(w.ps i).st≠.ae)(hs:(w.ps i).aJ≠some i):(fh w i z).ps i=qe (w.ps i) z:=by
 have e:=ye (z:=z) (Q:=w.ps i) dk h hu hs h hu rfl;have e0:w.aL i (w.ps i)=w:=by
  unfold W.aL;rw [show (λj=>if j=i then w.ps i else w.ps j)=w.ps from funext λj=>by
   by_cases e:j=i
   ·rw [if_pos e,e]
   ·rw [if_neg e]]
 rw [e0] at e;exact (congrArg (λw=>w.ps i) e).trans ah
theorem Ud:gR (bU (aX w i) i jb l) i h sl=((w.at' i).Cf h).aL i (mS (gm (qd (w.ps i) .aF) (aO jb l)) (some sl)):=by
 unfold gR;simp only [sa];refine (?_:W.aL (W.aL (W.aL (W.Cf (w.at' i) h) i _) i _) i _=_);simp only [dn,dn]
theorem PF:cU (yb p r)<=cU ⟨.live r pc,t,z,o⟩:=by
 refine (?_:vZ r<=vZ r+_);induction pc<;>simp only []<;>simp+arith only
theorem D7 (hf:nk r pc)(nC:pc=.X0\/pc=.E1):qh pc=[.exit (vY r)]:=by
 have hx:isX pc=true:=nC.elim (λe=>e▸rfl) λe=>e▸rfl;clear nC;induction hf<;>first|exact qS hx|rfl
theorem Lu (T:Tn w a aN i)(dk:i≠0)(hg:(a.ps i).g=.live r pc)(E:wb (a.at' i) aN i r w'):Out a aN w':=by
 refine E _ λa' M I g ge next last fd np cJ=>?_;have hS:∀f:AP->Int,(∀p q:AP,p.g=q.g->f p=f q)->a'.S f=a.S f+f (yb (a.ps i) r) - f (a.ps i):=λf hf=>by
  refine Eq.trans ?_ (ij T.hn.1);refine kA 24 λj Z=>hf _ _ ?_;by_cases e:j=i
  ·subst e;simp only [g,bg];rfl
  ·simp only [ge j e,bu e];rfl
 refine (.mk a' M I (λr' e=>?_) cJ ?_ ?_ (j6 (ge 0 (Ne.symm dk)) fd (.inl next) λk r' hk hr Z=>?_))
 ·rw [show a'.last=i from last,g] at e;injection e
 ·rw [hS cU (λp q h=>by unfold cU;rw [h])]
  have:cU (yb (a.ps i) r)<=cU (a.ps i):=by
   have:=PF (p:=a.ps i) (r:=r) (pc:=pc) (t:=false) (z:=0) (o:=none);unfold cU at this ⊢;refine (hg)▸?_;exact this
  omega
 ·simp only [hS dX (λp q h=>by unfold dX;rw [h]),np]
  have:=wj (p:=a.ps i);refine (?_:(a.np:Int)+(_+0 - _)<=_);grind only
 ·by_cases e:k=i
  ·subst e;rw [g];rw [hg] at hr;exact hr
  ·rw [ge k e];exact hr
theorem qO (T:Tn w a aN i)(dk:i≠0)(hg:(a.ps i).g=.live r pc)(nC:pc=.X0\/pc=.E1):gr w a aN i:=by
 refine (T.M.live T.hn.1 hg) _ λjb sl hj d0 hl hf hm fit=>?_;replace d0:=(D7 fit nC)▸d0;refine qj T hj d0 hf (by rw [d0];exact (by decide:1<300)) ⟨dk,T.M.fst⟩ λh sl' hF=>?_;refine (Lk T.M.at T.I' T.hn.1 dk hg nC (λj hj hp r' hb=>(pQ.b0 T.M T.I T.N T.hn hj hb hp).1 rfl:∀j,j<24->((a.at' i).ps j).aJ=some i->∀r',((a.at' i).ps j).g≠.live r' .B0)) _ λa' M I g ge next last fd np cJ=>?_;refine (?_:Out a aN (eY (fh (gR (bU (aX w i) i jb []) i h sl') i (vY r)) i));have h1:(w.ps i).st≠.aU:=by refine (T.hn.2.1)▸?_;nofun
 have h2:(w.ps i).aJ≠some i:=by rw [T.M.wc T.I T.hn.1];exact r7 T.I T.M T.hn.1 (by refine (hg)▸?_;exact eD rfl)
 rw [Ud,ye (w:=(w.at' i).Cf h) (Q:=mS (gm (qd (w.ps i) .aF) (aO jb [])) (some sl')) dk h1 T.hu h2 nofun nofun rfl,Hw,PA (by rw [ah];nofun)];refine Lu T dk hg (.mk a' (M.chg (λk hk=>?_) M.next M.last M.fst ?_ M.np) I g ge next last fd np cJ)
 ·by_cases e:k=i
  ·subst e
   have h3:=M.ps k hk;rw [PE (w:=w.at' k) dk h1 T.hu h2] at h3;rw [ah];exact .inr ⟨.Pa g (h3.at g),⟨λ⟨s,h⟩=>(by rw [g] at h;injection h),λh=>absurd h dk⟩⟩
  ·rw [aD e];exact .inl ⟨rfl,rfl,λZ=>rfl⟩
 ·refine hF.congr (λx=>?_) FH rfl
  by_cases e:x=i
  ·subst e
   simp only [ah];refine (?_:some sl'=((gR _ x h sl').ps x).fl);unfold gR;rw [ah];rfl
  ·rw [aD e]
   refine (FG (w:=(w.at' i))).trans ?_;unfold gR;rw [aD e];exact congrArg Pr.fl (gq e).symm
end
noncomputable def oO (p:AP):Int:=match p.g with
 |.free=>0
 |.live _ pc=>1+(match pc with|.B0=>2|_=>0)
 |_=>1
def lg.ZF (r:Rl)(pc:PC)(r1:Rl)(nI nJ:PC)(Z:Prop):Prop:=∀(f1:nk r1 nI)(f2:nk r nJ)(m0:mask pc=M3)(m1:mask nI=M3)(m2:mask nJ=M3)(n0:need (.live r pc)=some 0)(n1:need (.live r1 nI)=some 0)(n2:∀n,need (.live r nJ)=some n->n=1) (b2:nJ≠.B0) (rel:∀i q,q.g=.live r nJ->fj.uk r1 i q) (l1:qK r1=0) (ka:∀p q t n o,kF (jE p r nJ)+kF ⟨.live r1 nI,t,n,o⟩=kF ⟨.live r pc,false,p.aS,q⟩) (dl:∀s,cI s (zI (.live r nJ))+cI s (zI (.live r1 nI))=cI s (zI (.live r pc))) (cJ:∀p q n o,cJ (jE p r nJ)+cJ ⟨.live r1 nI,false,n,o⟩<=cJ ⟨.live r pc,false,p.aS,q⟩ - 1) (cU:∀p q n o,cU (jE p r nJ)+cU ⟨.live r1 nI,false,n,o⟩<=cU ⟨.live r pc,false,p.aS,q⟩) (dX:∀p q n o,dX (jE p r nJ)+dX ⟨.live r1 nI,false,n,o⟩<=dX ⟨.live r pc,false,p.aS,q⟩) (le:DS nJ<=DS pc),Z
def lg (r pc r1 nI nJ):=∀Z:Prop,lg.ZF r pc r1 nI nJ Z->Z
theorem lg.mk:lg.ZF r pc r1 nI nJ (lg r pc r1 nI nJ):=λf1 f2 m0 m1 m2 n0 n1 n2 b2 rel l1 ka dl cJ cU dX le _ Z=>Z f1 f2 m0 m1 m2 n0 n1 n2 b2 rel l1 ka dl cJ cU dX le
def lg.f1 (Z:lg r pc r1 nI nJ):=Z _ λf1 f2 m0 m1 m2 n0 n1 n2 b2 rel l1 ka dl cJ cU dX le=>f1
def lg.f2 (Z:lg r pc r1 nI nJ):=Z _ λf1 f2 m0 m1 m2 n0 n1 n2 b2 rel l1 ka dl cJ cU dX le=>f2
def lg.m0 (Z:lg r pc r1 nI nJ):=Z _ λf1 f2 m0 m1 m2 n0 n1 n2 b2 rel l1 ka dl cJ cU dX le=>m0
def lg.m1 (Z:lg r pc r1 nI nJ):=Z _ λf1 f2 m0 m1 m2 n0 n1 n2 b2 rel l1 ka dl cJ cU dX le=>m1
def lg.m2 (Z:lg r pc r1 nI nJ):=Z _ λf1 f2 m0 m1 m2 n0 n1 n2 b2 rel l1 ka dl cJ cU dX le=>m2
def lg.n0 (Z:lg r pc r1 nI nJ):=Z _ λf1 f2 m0 m1 m2 n0 n1 n2 b2 rel l1 ka dl cJ cU dX le=>n0
def lg.n1 (Z:lg r pc r1 nI nJ):=Z _ λf1 f2 m0 m1 m2 n0 n1 n2 b2 rel l1 ka dl cJ cU dX le=>n1
def lg.n2 (Z:lg r pc r1 nI nJ):=Z _ λf1 f2 m0 m1 m2 n0 n1 n2 b2 rel l1 ka dl cJ cU dX le=>n2
def lg.b2 (Z:lg r pc r1 nI nJ):=Z _ λf1 f2 m0 m1 m2 n0 n1 n2 b2 rel l1 ka dl cJ cU dX le=>b2
def lg.rel (Z:lg r pc r1 nI nJ):=Z _ λf1 f2 m0 m1 m2 n0 n1 n2 b2 rel l1 ka dl cJ cU dX le=>rel
def lg.l1 (Z:lg r pc r1 nI nJ):=Z _ λf1 f2 m0 m1 m2 n0 n1 n2 b2 rel l1 ka dl cJ cU dX le=>l1
def lg.ka (Z:lg r pc r1 nI nJ):=Z _ λf1 f2 m0 m1 m2 n0 n1 n2 b2 rel l1 ka dl cJ cU dX le=>ka
def lg.dl (Z:lg r pc r1 nI nJ):=Z _ λf1 f2 m0 m1 m2 n0 n1 n2 b2 rel l1 ka dl cJ cU dX le=>dl
def lg.cJ (Z:lg r pc r1 nI nJ):=Z _ λf1 f2 m0 m1 m2 n0 n1 n2 b2 rel l1 ka dl cJ cU dX le=>cJ
def lg.cU (Z:lg r pc r1 nI nJ):=Z _ λf1 f2 m0 m1 m2 n0 n1 n2 b2 rel l1 ka dl cJ cU dX le=>cU
def lg.dX (Z:lg r pc r1 nI nJ):=Z _ λf1 f2 m0 m1 m2 n0 n1 n2 b2 rel l1 ka dl cJ cU dX le=>dX
def lg.le (Z:lg r pc r1 nI nJ):=Z _ λf1 f2 m0 m1 m2 n0 n1 n2 b2 rel l1 ka dl cJ cU dX le=>le
section
theorem QZ:∀r,1<=vZ r+(qK r+(qK r+K8 r))
 |.r|.lq|.ka|.kd|.b|.c|.rl|.f7=>by decide
theorem Ue (r:Rl)(pc:PC):oO ⟨.live r pc,t,n,o⟩+vZ r+K8 r<=cU ⟨.live r pc,t,n,o⟩+kF ⟨.live r pc,t,n,o⟩+1:=by
 delta oO cU kF;induction pc<;>simp<;>simp+arith only
theorem Ug (hf:∀s,p.g≠.first s):oO p<=cU p+(ln p+(ln p+kF p)):=by
 induction p with
 |mk g t n o=>
 induction g with
 |free=>exact Int.le_refl 0
 |first s=>exact absurd rfl (hf s)
 |fP r=>exact QZ r
 |live r pc=>
  have h1:=QZ r;have h2:=Ue (t:=t) (n:=n) (o:=o) r pc;refine (?_:_<=_+(qK r+(qK r+_)));grind only
theorem wm (h:oO p<=0):p.g=.free:=by
 induction p with
 |mk g t n o=>
 induction g with
 |free=>rfl
 |first s=>exact absurd h (by decide:¬(1:Int)<=0)
 |fP r=>exact absurd h (by decide:¬(1:Int)<=0)
 |live r pc=>exact absurd h (by induction pc<;>(show ¬(_:Int)<=0;simp [oO]))
theorem FI (M:Mt w a)(I:Inv a aN)(hc:a.S cU<=20):a.S oO<=23:=by
 have h:a.S oO<=fF (λj=>cU (a.ps j)+(ln (a.ps j)+(ln (a.ps j)+(kF (a.ps j)+(if j=0 then 3 else 0))))) 24:=OI 24 λj hj=>by
  by_cases e:j=0
  ·subst e
   refine (if_pos rfl)▸?_;obtain ⟨s,hs⟩:=M.z;delta oO cU ln kF;refine (hs)▸?_;induction s with
   |nil=>exact (by decide:(1:Int)<=0+(0+(0+(0+3))))
   |cN z=>exact (by decide:(1:Int)<=4+(0+(0+(0+3))))
   |«until» p=>exact (by decide:(1:Int)<=0+(-1+(-1+(0+3))))
  ·refine (if_neg e)▸?_
   have:=Ug (M.nz j hj e);grind only
 simp only [mh,mh,mh,mh] at h;have e1:fF (λj=>ln (a.ps j)) 24=0:=I.qM;have e2:fF (λj=>kF (a.ps j)) 24=0:=I.qW;have e3:fF (λj=>if j=0 then (3:Int) else 0) 24=3:=by decide+kernel
 have e4:fF (λj=>cU (a.ps j)) 24<=20:=hc;grind only
theorem D8 {f:Nat->Int}(h:fF f 24<=23):∃j,j<24/\f j<=0:=by
 have:fF (λj=>1+(- f j)) 24=24 - fF f 24:=by
  have e:fF f 24+fF (λj=>- f j) 24=0:=by
   rw [<- mh,kA (f:=λZ=>0) 24 (λj Z=>Int.add_right_neg _),mT];rfl
  simp only [mh,mT];grind only
 refine aQ (rU (f:=λj=>1+(- f j)) 24 (by omega)) λj hj h1=>?_;exact ⟨j,hj,by grind only⟩
theorem Q3 (M:Mt w a)(I:Inv a aN)(hc:a.S cU<=20):∃c,c<24/\(w.ps c).st=.ae:=by
 refine aQ (D8 (FI M I hc)) λj hj h=>?_;exact ⟨j,hj,(M.eQ hj).mpr (wm h)⟩
theorem Uh:0<=oO p:=by
 unfold oO;induction p.g with
 |free=>exact Int.le_refl 0
 |live r pc=>induction pc<;>first|exact (by decide:(0:Int)<=1+0)|exact (by decide:(0:Int)<=1+2)
 |fP r=>exact (by decide:(0:Int)<=1)
 |first s=>exact (by decide:(0:Int)<=1)
theorem XS (M:Mt w a)(I:Inv a aN)(hc:a.S cU<=20)(hi:i<24)(hg:(a.ps i).g=.live r .B0):∃c d,c≠d/\(c<24/\(w.ps c).st=.ae)/\d<24/\(w.ps d).st=.ae:=by
 have h0:=FI M I hc;refine aQ (D8 h0) λc zx h1=>?_;have CG:=wm h1;have e1:fF (λj=>if j=i then 1 else oO (a.ps j)) 24=a.S oO+1 - 3:=by
  rw [mf (f:=λj=>oO (a.ps j)) 24 hi (λj hj=>if_neg hj),if_pos rfl];unfold A.S;simp only [show oO (a.ps i)=3 from by unfold oO;rw [hg];rfl]
 have e2:fF (λj=>if j=c then 1 else if j=i then 1 else oO (a.ps j)) 24<=23:=by
  rw [mf (f:=λj=>if j=i then 1 else oO (a.ps j)) 24 zx (λj hj=>if_neg hj),if_pos rfl,if_neg (λe=>by rw [e,hg] at CG;injection CG:c≠i),e1];have:=Uh (p:=a.ps c);grind only
 refine aQ (D8 e2) λd hd h2=>?_;by_cases e:d=c
 ·rw [if_pos e] at h2;exact absurd h2 (by decide)
 ·rw [if_neg e] at h2
  by_cases e':d=i
  ·rw [if_pos e'] at h2;exact absurd h2 (by decide)
  ·rw [if_neg e'] at h2
   exact ⟨c,d,Ne.symm e,⟨zx,(M.eQ zx).mpr CG⟩,hd,(M.eQ hd).mpr (wm h2)⟩
end
section
theorem Mt.spawn (M:Mt w a)(U:xf w w' i c P Q)(hn:w'.next=w.next+1)(fG:c≠i)(ir:c≠0)(hp:PM P p a.fd)(hq:PM Q ⟨g,false,a.next,some i⟩ a.fd)(Mp:(∃s,p.g=.first s)↔i=0) (Mo:∀s,g≠.first s):Mt w' ((a.at' i).spawn i c p g):=by
 refine M.chg (λk hk=>?_) (hn.trans (congrArg (·+1) M.next)) U.last ?_ U.hF ⟨U.np.1.trans M.np.1,U.np.2.trans M.np.2⟩
 ·by_cases e:k=i
  ·subst e
   rw [U.eV,gB];exact .inr ⟨hp,Mp⟩
  ·by_cases e':k=c
   ·subst e'
    rw [U.at2,mX fG];exact .inr ⟨hq,⟨λ⟨s,h⟩=>absurd h (Mo s),λh=>absurd h ir⟩⟩
   ·rw [U.ne k e e',gp e e']
    exact .inl ⟨rfl,rfl,λZ=>rfl⟩
 ·rw [U.fst,M.fst];rfl
theorem yf (T:Tn w a aN i)(hj:(w.ps i).dq=some jb)(hf:(w.ps i).fl=some sl)(hl:sl.length=6)(Xy:jb.aI.length<300)(hL:rest.length<300)(hc:c<24)(j4:((bU (aX w i) i jb rest).ps c).st=.ae)
  (hp:PM (nF (w.ps i) (d8 jb w.next) (st2++rest) sl) p a.fd)(hq:PM (gm (kz w.next i sl) ⟨ja,st,[],0⟩) ⟨g,false,a.next,some i⟩ a.fd)(Mp:(∃s,p.g=.first s)↔i=0) (Mo:∀s,g≠.first s) (Po:∀r,p.g≠.live r .B0)
  (hI:c≠i->c≠0->(a.ps c).g=.free->Inv ((a.at' i).spawn i c p g) aN/\∀bf z,iK bf z a->iK bf z ((a.at' i).spawn i c p g))
  (Ub:cJ p+cJ ⟨g,false,a.next,some i⟩<=cJ (a.ps i) - 1) (XQ:cU p+cU ⟨g,false,a.next,some i⟩<=cU (a.ps i)) (aa1:dX p+dX ⟨g,false,a.next,some i⟩<=dX (a.ps i)):
  Out a aN (eY (dr (bU (aX w i) i jb rest) i c sl (aO jb rest) ja st st2) i):=by
 have hi:=T.hn.1;have fG:c≠i:=λe=>by
  replace j4:=(sa)▸(e)▸j4;cases j4
 replace j4:=(gq fG)▸j4;have iO:=(T.M.eQ hc).mp j4;have ir:c≠0:=λe=>by
  obtain ⟨s,hs⟩:=T.M.z;rw [e,hs] at iO;injection iO
 have HY:=T.C.XO;obtain ⟨U,QW⟩:=Hv (T.M.we T.I hi hj hf T.hu Xy (by exact Nat.lt_of_lt_of_le ‹_› (by decide))) hl hf hL hc j4 fG (ja:=ja) (st:=st) (st2:=st2);obtain ⟨Ve,tT⟩:=hI fG ir iO;have hS:∀f:AP->Int,f (a.ps c)=0->((a.at' i).spawn i c p g).S f=a.S f+f p - f (a.ps i)+f ⟨g,false,a.next,some i⟩:=λf h=>by
  rw [lb hi hc fG];refine (?_:a.S f+f p - f (a.ps i)+_ - f (a.ps c)=_);rw [h];exact Int.sub_zero _
 refine (.mk _ (T.M.spawn U QW fG ir hp hq Mp Mo) Ve (λr' e=>?_) ?_ ?_ ?_ tT)
 ·have e1:p.g=.live r' .B0:=by refine (gB (a:=a.at' i) (i:=i) (c:=c) (p:=p) (g:=g))▸?_;exact e
  exact Po r' e1
 ·rw [hS cJ (by unfold cJ;rw [iO])];grind only
 ·rw [hS cU (by unfold cU;rw [iO])];grind only
 ·rw [hS dX (by unfold dX;rw [iO])]
  refine (?_:(a.np:Int)+_<=_);grind only
theorem XU (h:nk r pc)(hk:UK pc=true):qK r=1\/r=.ka:=by
 induction h<;>first|exact qS hk|exact .inl rfl|exact .inr rfl
theorem XW (T:Tn w a aN i)(hi:j<24)(hg:(a.ps j).g=.live r pc)(h:pc=.K0\/pc=.C0\/pc=.C2):∃q,(a.ps 0).g=.first (.until q):=by
 have hf:=T.M.fits hi hg;have key:∀j r pc,j<24->(a.ps j).g=.live r pc->qK r=1->∃q,(a.ps 0).g=.first (.until q):=λj r pc hj hg hl=>by
  have iq:j≠0:=λe=>by
   obtain ⟨s,hs⟩:=T.M.z;rw [e,hs] at hg;injection hg
  refine (T.I.line j hj iq (by unfold ln;refine (hg)▸?_;exact hl)) _ λq h1 _=>?_;exact ⟨q,h1⟩
 have hr:qK r=1\/r=.ka:=XU hf (h.elim (λe=>e▸rfl) λh=>h.elim (λe=>e▸rfl) λe=>e▸rfl);rcases hr with hr|rfl
 ·exact key j r pc hi hg hr
 ·have iq:j≠0:=λe=>by
   obtain ⟨s,hs⟩:=T.M.z;rw [e,hs] at hg;injection hg
  refine (T.I.aJ j hi iq (by rw [hg];exact eD rfl)) _ λp _ h2 _ _ h5=>?_;rw [hg] at h5;induction h5 with
  |z h t=>exact Bool.noConfusion t
  |k h=>exact key p _ _ h2 (TZ h) rfl
theorem Ui:∀i,i<24->nB i i=23:=by decide+kernel
theorem Lv (hi:i<24)(hc:c<24)(h:c≠i):nB i c<nB i i:=
 Nat.lt_of_le_of_ne (Ui i hi▸Nat.le_of_lt_succ (vI hi hc).1) λe=>h (FC hi hc hi e)
theorem D9 (h:M3 sl):sl.length=6:=by obtain ⟨_,_,_,rfl⟩:=h;rfl
theorem yg (T:Tn w a aN i)(dk:i≠0)(hg:(a.ps i).g=.live r pc)(F:lg r pc r1 nI nJ)(nC:pc=.K0\/pc=.C0\/pc=.C2)(hj:(w.ps i).dq=some jb)(hf:(w.ps i).fl=some sl)(hm:mask pc sl)(d0:jb.aI.length<300)(hL:rest.length<300)(hc:c<24)(j4:((bU (aX w i) i jb rest).ps c).st=.ae)
  (h2:qh nJ=st2++rest)(h1:qh nI=st)(YS:jb.bl.length+DS pc<=9):Out a aN (eY (dr (bU (aX w i) i jb rest) i c sl (aO jb rest) ja st st2) i):=by
 have hi:=T.hn.1;have hw:k9 pc=false:=by rcases nC with rfl|rfl|rfl<;>rfl
 have e:=mq hg (T.M.v8 hi hg hw).2;rw [F.m0] at hm;have Li:∀j,j<24->(a.ps j).aJ≠some i:=λj hj=>T.I.DU hi (by refine (hg)▸?_;exact F.n0) hj;refine yf (p:=jE (a.ps i) r nJ) (g:=.live r1 nI) T hj hf (D9 hm) d0 hL hc j4 ?_ ?_ ⟨λ⟨s,h⟩=>(by injection h),λh=>absurd h dk⟩ (λZ=>eD rfl) (λr' h=>by cases h;exact F.b2 rfl) (λfG ir iO=>⟨?_,?_⟩) ?_ ?_ ?_
 ·refine h2▸?_;exact zP (jb:=d8 jb w.next) (T.M.ps i hi) hg F.f2 (by rw [F.m2];exact hm) (Nat.le_trans (Nat.add_le_add_left F.le _) YS)
 ·refine (h1)▸(T.M.next)▸?_;exact zQ F.f1 (by rw [F.m1];exact hm)
 ·refine T.I'.spawn hi hc fG ir iO rfl rfl (by show (a.ps i).g≠_;rw [hg];exact eD rfl) (eD rfl) (by show _=bR (a.ps i).g;rw [hg];rfl) rfl (λj hj Z Z hp Z=>absurd hp (Li j hj)) (Li i hi) (λn hn=>?_) (eD rfl) (λZ=>eD rfl) (λn hn=>by replace hn:=(F.n1)▸hn;cases hn;rfl) (F.rel i _ rfl) (λZ=>eD rfl)
   (λZ Z=>⟨dk,Lv hi hc fG⟩) (λr' h=>by cases h;exact F.b2 rfl) (λh=>absurd h dk) (λb n o h=>by rw [show ln ⟨.live r1 nI,b,n,o⟩=qK r1 from rfl,F.l1] at h;contradiction) ?_ ?_ ?_ (λZ=>eD rfl)
  ·rw [F.n2 n hn,show qi (a.at' i) i=0 from r8 Li];rfl
  ·refine (?_:qK r+qK r1=ln (a.ps i))
   rw [F.l1,e];exact Int.add_zero _
  ·refine (?_:_=kF (a.ps i))
   refine (e)▸?_;exact F.ka _ _ _ _ _
  ·intro s
   refine (?_:cI s (zI (.live r nJ))+cI s (zI (.live r1 nI))=dl s (a.ps i));rw [F.dl];unfold dl;rw [hg]
 ·refine j6 ?_ rfl (.inr λz hz=>?_) λk r' hk hr Z=>?_
  ·rw [gp (Ne.symm dk) (Ne.symm ir)];rfl
  ·obtain ⟨q,hq⟩:=XW T hi hg nC
   replace hq:=(hz)▸hq;cases hq
  ·by_cases e1:k=i
   ·subst e1;rw [gB];rw [hg] at hr;exact hr
   ·by_cases e2:k=c
    ·subst e2;replace hr:=(iO)▸hr;injection hr
    ·rw [gp e1 e2];exact hr
 ·refine (e)▸?_;exact F.cJ _ _ _ _
 ·refine (e)▸?_;exact F.cU _ _ _ _
 ·refine (e)▸?_;exact F.dX _ _ _ _
theorem mZ {l l':List Int}:cI x (l++l')=cI x l+cI x l':=by
 induction l with
 |nil=>exact (Int.zero_add _).symm
 |cons y l ih=>
  refine (?_:_+cI x (l++l')=_+cI x l+cI x l');rw [ih];simp+arith only
theorem Q4 (hr:r=.ka\/r=.kd):lg r .K0 .r .R0 .X0:=by
 have FV:nk r .X0/\need (.live r .X0)=none/\vZ r=0/\oL (.live r .X0) .r:=by
  rcases hr with rfl|rfl
  ·exact ⟨.Xq,rfl,rfl,.x1⟩
  ·exact ⟨.Xs,rfl,rfl,.x2⟩
 refine (.mk .rR0 FV.1 rfl rfl rfl ?_ rfl (λn hn=>?_) (pR rfl) (λi q hq=>.k (hq▸FV.2.2.2)) rfl (λp q t n o=>?_) (λs=>?_) (λp q n o=>?_) (λp q n o=>?_) (λp q n o=>?_) (by decide))
 ·rcases hr with rfl|rfl<;>rfl
 ·rw [FV.2.1] at hn;injection hn
 ·exact Int.add_zero _
 ·refine (?_:cI s (uj r++[])+cI s [1]=cI s (uj r++[1]))
  simp only [mZ,mZ];show _+0+_=_;simp+arith only
 ·exact (by decide:(3+0:Int)+(4+0)<=8+0 - 1)
 ·refine (?_:vZ r+0+(1+0)<=vZ r+1);simp+arith only
 ·exact Int.le_refl 0
theorem XX:lg .c .C0 .ka .K0 .C1:=by
 refine (.mk .Xp .cC1 rfl rfl rfl rfl rfl (λn hn=>(Option.some.inj hn).symm) (pR rfl) (λi q hq=>.k (hq▸.ka)) rfl (λp q t n o=>rfl) (λs=>?_) (λp q n o=>?_) (λp q n o=>?_) (λp q n o=>?_) (by decide))
 ·refine (?_:cI s [0,0]+cI s [1]=cI s [0,1,0])
  show _+(_+0)+(_+0)=_+(_+(_+0));simp+arith only
 ·exact (by decide:(25+1:Int)+(8+0)<=35+0 - 1)
 ·exact (by decide:(0+3:Int)+(0+1)<=0+4)
 ·exact (by decide:(1:Int)+0<=1)
theorem XY:lg .c .C2 .b .B0 .X0:=by
 refine (.mk .bB0 .cX0 rfl rfl rfl rfl rfl (λn hn=>(by injection hn)) (pR rfl) (λi q hq=>.k (hq▸.c)) rfl (λp q t n o=>rfl) (λs=>?_) (λp q n o=>?_) (λp q n o=>?_) (λp q n o=>?_) (by decide))
 ·refine (?_:cI s [0]+cI s [0]=cI s [0,0])
  show (_+0)+(_+0)=_+(_+0);simp+arith only
 ·exact (by decide:(3+0:Int)+(21+0)<=25+0 - 1)
 ·exact (by decide:(0+0:Int)+(1+2)<=0+3)
 ·exact (by decide:(0:Int)+1<=1)
theorem wo (T:Tn w a aN i):x8 (bU (aX w i) i jb rest):=by
 refine aQ (Q3 T.M T.I T.C.cU) λc hc hu=>?_;refine ⟨c,hc,?_⟩;rw [gq (λe=>T.hu (by rw [<- e];exact hu))];exact hu
theorem Ea (T:Tn w a aN i)(dk:i≠0)(hg:(a.ps i).g=.live r pc)(F:lg r pc r1 nI .X0)(nC:pc=.K0\/pc=.C2)(h0:qh pc=[.run (.back tt)])(h1:qh nI=[.run tt]):gr w a aN i:=by
 refine (T.M.live T.hn.1 hg) _ λjb sl hj d0 hl hf hm _=>?_;have hlen:jb.aI.length<300:=by rw [d0];exact mY _
 simp only [h0] at d0;exact qj T hj d0 hf hlen (wo T) λc ja hc j4=>yg T dk hg F (nC.elim .inl λh=>.inr (.inr h)) hj hf hm hlen (by decide) hc j4 rfl h1 hl
theorem Uj (T:Tn w a aN i)(dk:i≠0)(hg:(a.ps i).g=.live .c .C0):gr w a aN i:=by
 refine (T.M.live T.hn.1 hg) _ λjb sl hj d0 hl hf hm _=>?_;have hlen:jb.aI.length<300:=by rw [d0];exact mY _
 exact qj T hj d0 hf hlen (wo T) λc ja hc j4=>yg T dk hg XX (.inr (.inl rfl)) hj hf hm hlen (by decide) hc j4 rfl rfl hl
end
def qk.ZF (z:Int)(r:Rl)(pc:PC)(Z:Prop):Prop:=∀(hp:qh pc=[.run (te z)])(f:nk r pc)(m:mask pc=M3)(n:need (.live r pc)=some 0)(b:pc≠.B0)(rel:∀q,fj.uk r 0 q) (l:qK r=1) (s:vY r=fO z) (ka:K8 r - (if pc=.C1 then 1 else 0)=0) (dl:zI (.live r pc)=fO z::kQ z) (cJ:∀n o,Internal.cJ ⟨.live r pc,false,n,o⟩<=35) (cU:∀n o,Internal.cU ⟨.live r pc,false,n,o⟩<=4) (dX:∀n o,Internal.dX ⟨.live r pc,false,n,o⟩<=1),Z
def qk (z r pc):=∀Z:Prop,qk.ZF z r pc Z->Z
theorem qk.mk:qk.ZF z r pc (qk z r pc):=λhp f m n b rel l s ka dl cJ cU dX _ Z=>Z hp f m n b rel l s ka dl cJ cU dX
def qk.hp (Z:qk z r pc):=Z _ λhp f m n b rel l s ka dl cJ cU dX=>hp
def qk.f (Z:qk z r pc):=Z _ λhp f m n b rel l s ka dl cJ cU dX=>f
def qk.m (Z:qk z r pc):=Z _ λhp f m n b rel l s ka dl cJ cU dX=>m
def qk.n (Z:qk z r pc):=Z _ λhp f m n b rel l s ka dl cJ cU dX=>n
def qk.b (Z:qk z r pc):=Z _ λhp f m n b rel l s ka dl cJ cU dX=>b
def qk.rel (Z:qk z r pc):=Z _ λhp f m n b rel l s ka dl cJ cU dX=>rel
def qk.l (Z:qk z r pc):=Z _ λhp f m n b rel l s ka dl cJ cU dX=>l
def qk.s (Z:qk z r pc):=Z _ λhp f m n b rel l s ka dl cJ cU dX=>s
def qk.ka (Z:qk z r pc):=Z _ λhp f m n b rel l s ka dl cJ cU dX=>ka
def qk.dl (Z:qk z r pc):=Z _ λhp f m n b rel l s ka dl cJ cU dX=>dl
def qk.cJ (Z:qk z r pc):=Z _ λhp f m n b rel l s ka dl cJ cU dX=>cJ
def qk.cU (Z:qk z r pc):=Z _ λhp f m n b rel l s ka dl cJ cU dX=>cU
def qk.dX (Z:qk z r pc):=Z _ λhp f m n b rel l s ka dl cJ cU dX=>dX
section
variable {p k:AP}
theorem tuF (h:0<=z)(h':z<3):∃r pc,qk z r pc:=by
 have:z=0\/z=1\/z=2:=by grind only
 rcases this with rfl|rfl|rfl
 ·exact ⟨.rl,.R0,(.mk rfl .Xm rfl rfl (pR rfl) (λZ=>.z rfl rfl) rfl rfl rfl rfl (λZ Z=>(by decide:(4+0:Int)<=35)) (λZ Z=>(by decide:(0+0:Int)<=4)) (λZ Z=>(by decide:(0:Int)<=1)))⟩
 ·exact ⟨.kd,.K0,(.mk rfl .Xr rfl rfl (pR rfl) (λZ=>.z rfl rfl) rfl rfl rfl rfl (λZ Z=>(by decide:(8+0:Int)<=35)) (λZ Z=>(by decide:(0+1:Int)<=4)) (λZ Z=>(by decide:(0:Int)<=1)))⟩
 ·exact ⟨.c,.C0,(.mk rfl .cC0 rfl rfl (pR rfl) (λZ=>.z rfl rfl) rfl rfl rfl rfl (λZ Z=>(by decide:(35+0:Int)<=35)) (λZ Z=>(by decide:(0+4:Int)<=4)) (λZ Z=>(by decide:(1:Int)<=1)))⟩
theorem Uk {Q Q':AP}{s:FS}(hQ:Q.g=.first s)(h:fj g 0 Q):fj g 0 Q':=by
 refine aQ (j5 h) λr h1 h2=>?_;induction h2 with
 |z h t=>exact zM h1 (.z h t)
 |k h=>replace h:=(hQ)▸h;contradiction
theorem tr {s:FS}(hg:p.g=.first s)(hs:p.sl=false):p=⟨.first s,false,p.aS,p.aJ⟩:=by
 induction p;subst hg;subst hs;rfl
theorem Ul (T:Tn w a aN 0)(hg:(a.ps 0).g=.first (.cN z)):gr w a aN 0:=by
 refine (T.M.r9 hg) _ λjb sl hj d0 hs hf hm=>?_;obtain ⟨h0,h3⟩:=T.I.way z hg;refine tF (tuF h0 h3) λr pc F=>?_;have hlen:jb.aI.length<300:=by rw [(d0:jb.aI=[.cN (te z)])];exact (by decide:1<300)
 have e:=tr hg (T.M.ready (by decide) T.hn.2.1).2.2;have hn:(bU (aX w 0) 0 jb []).next=a.next:=T.M.next;refine qj T hj (d0:jb.aI=[.cN (te z)]) hf hlen (wo T) λc ja hc j4=>?_;refine (?_:Out a aN (eY (dr (bU (aX w 0) 0 jb []) 0 c sl (aO jb []) ja [.run (te z)] [.until (bU (aX w 0) 0 jb []).next]) 0));refine (hn)▸?_;refine yf (p:=⟨.first (.until a.next),false,(a.ps 0).aS,(a.ps 0).aJ⟩) (g:=.live r pc) T hj hf (D9 hm) hlen (by decide) hc j4 (FE (s':=.until a.next) (jb:=d8 jb w.next) (T.M.ps 0 (by decide)) hg hs hm) ?_ ⟨λZ=>rfl,λZ=>⟨_,rfl⟩⟩ (λZ=>eD rfl) (λZ=>eD rfl) (λfG ir iO=>⟨?_,?_⟩) ?_ ?_ ?_
 ·refine (F.hp)▸(T.M.next)▸?_;exact zQ F.f (by rw [F.m];exact hm)
 ·refine T.I'.spawn (by decide) hc fG ir iO rfl rfl (by show (a.ps 0).g≠_;rw [hg];exact eD rfl) (eD rfl) (by show _=bR (a.ps 0).g;rw [hg];rfl) rfl (λj hj Z Z Z h=>Uk (show ((a.at' 0).ps 0).g=_ from hg) h) (by show (a.ps 0).aJ≠_;refine (T.M.zL)▸?_;exact ip rfl) (λZ=>ip rfl) (eD rfl) (λZ=>eD rfl) (λn hn=>by replace hn:=(F.n)▸hn;cases hn;rfl) (F.rel _) (λZ=>eD rfl)
   (λr' h=>by cases h;exact absurd rfl F.b) (λZ=>eD rfl) (λZ q h=>?_) (λb n o Z=>⟨rfl,rfl⟩) ?_ ?_ ?_ (λZ=>DQ rfl)
  ·replace h:=(show ((a.at' 0).ps 0).g=_ from hg)▸h;cases h
  ·refine (?_:-1+qK r=ln (a.ps 0))
   rw [F.l];unfold ln;refine (hg)▸?_;rfl
  ·refine (?_:0+(K8 r - (if pc=.C1 then 1 else 0))=kF (a.ps 0))
   rw [F.ka];unfold kF;refine (hg)▸?_;rfl
  ·intro s
   refine (?_:cI s []+cI s (zI (.live r pc))=cI s (zI (a.ps 0).g));simp only [F.dl,hg];exact Int.zero_add _
 ·intro bf z' L
  induction L with
  |t h n=>
   rw [hg] at h;cases h;refine .u ?_ r c hc ir (by rw [mX fG];rfl) F.l F.s;rw [gB,<- n]
  |u h=>replace h:=(hg)▸h;cases h
  |d h=>rw [hg] at h;cases h
  |e h=>rw [hg] at h;cases h
 ·refine (e)▸?_
  have:=F.cJ a.next (some 0);refine (?_:(0+1:Int)+_<=36+1 - 1);omega
 ·refine (e)▸?_
  have:=F.cU a.next (some 0);refine (?_:(0:Int)+_<=4);omega
 ·refine (e)▸?_
  have:=F.dX a.next (some 0);refine (?_:(0:Int)+_<=1);omega
end
def uw.ZF (w w':W)(i c:Nat)(P:Pr)(Z:Prop):Prop:=∀(eV:w'.ps i=P)(at2:w'.ps c=kP)(ne:∀k,k≠i->k≠c->w'.ps k=w.ps k) (hF:fM w') (next:w'.next=w.next) (last:w'.last=i) (fst:w'.fst=w.fst) (np:w'.eu=w.eu/\w'.dG=w.dG),Z
def uw (w w' i c P):=∀Z:Prop,uw.ZF w w' i c P Z->Z
theorem uw.mk:uw.ZF w w' i c P (uw w w' i c P):=λeV at2 ne hF next last fst np _ Z=>Z eV at2 ne hF next last fst np
def uw.eV (Z:uw w w' i c P):=Z _ λeV at2 ne hF next last fst np=>eV
def uw.at2 (Z:uw w w' i c P):=Z _ λeV at2 ne hF next last fst np=>at2
def uw.ne (Z:uw w w' i c P):=Z _ λeV at2 ne hF next last fst np=>ne
def uw.hF (Z:uw w w' i c P):=Z _ λeV at2 ne hF next last fst np=>hF
def uw.next (Z:uw w w' i c P):=Z _ λeV at2 ne hF next last fst np=>next
def uw.last (Z:uw w w' i c P):=Z _ λeV at2 ne hF next last fst np=>last
def uw.fst (Z:uw w w' i c P):=Z _ λeV at2 ne hF next last fst np=>fst
def uw.np (Z:uw w w' i c P):=Z _ λeV at2 ne hF next last fst np=>np
def tW.ZF (w:W)(a:A)(i c:Nat)(Z:Prop):Prop:=∀(rc:Rl)(ci:c≠i)(c0:c≠0)(aJ:(a.ps c).aJ=some i)(g:(a.ps c).g=.fP rc)(st:(w.ps c).status=vY rc)(aS:(w.ps c).aS=(a.ps c).aS),Z
def tW (w a i c):=∀Z:Prop,tW.ZF w a i c Z->Z
theorem tW.mk:tW.ZF w a i c (tW w a i c):=λrc ci c0 aJ g st aS _ Z=>Z rc ci c0 aJ g st aS
noncomputable def qP (p:AP):AP:=⟨p.g,true,p.aS,p.aJ⟩
section
theorem Cg (hF:fM w)(fG:c≠i)(hi:i<24)(hc:c<24)(gQ:(w.ps i).fl=some sl)(t:Bool):
  uw w (eY (if t then oD (bU (aX w i) i jb rest) i c (aO jb rest) else k8 (oD (bU (aX w i) i jb rest) i c (aO jb rest)) i s) i) i c
   (nF (w.ps i) (s9 jb (jb.bl++[((w.ps c).aS,(w.ps c).status)])) (if t then rest else s::rest) sl):=by
 have e:(if t then oD (bU (aX w i) i jb rest) i c (aO jb rest) else k8 (oD (bU (aX w i) i jb rest) i c (aO jb rest)) i s)=
   ((bU (aX w i) i jb rest).aL c kP).aL i (gm (qd (w.ps i) .aF) (aO (s9 jb (jb.bl++[((w.ps c).aS,(w.ps c).status)])) (if t then rest else s::rest))):=by
  have e1:oD (bU (aX w i) i jb rest) i c (aO jb rest)=((bU (aX w i) i jb rest).aL c kP).aL i (gm (qd (w.ps i) .aF) (aO (s9 jb (jb.bl++[((w.ps c).aS,(w.ps c).status)])) rest)):=by
   unfold oD;rw [sa,gq fG];rfl
  induction t with
  |true=>exact e1
  |false=>
   refine (?_:k8 _ i s=_);refine (e1)▸?_;unfold k8;refine (ah)▸?_;exact dn
 refine (e)▸?_;refine (.mk ?_ ?_ (λk h h'=>?_) (pG (((pF (jb:=jb) (l:=rest) (i:=i) hF).drop (w':=(bU (aX w i) i jb rest).aL c kP) hc (λk hk=>by rw [aD hk]) (by rw [ah];rfl) rfl rfl).congr (λx=>?_) rfl rfl)) ?_ ?_ ?_ ⟨?_,?_⟩)
 ·rw [D4 (by rw [ah];rfl),ah]
  delta nF qU gm mS qd aO s9;simp only [gQ]
 ·rw [qN fG,aD fG,ah]
 ·rw [qN h,aD h,aD h',gq h]
 ·by_cases e:x=i
  ·subst e
   simp only [ah,aD (Ne.symm fG),wg];rfl
  ·rw [aD e]
 ·exact wi λZ Z=>rfl
 ·exact wi (f:=λw=>w.last) λZ Z=>rfl
 ·exact wi (f:=λw=>w.fst) λZ Z=>rfl
 ·exact wi (f:=λw=>w.eu) λZ Z=>rfl
 ·exact wi (f:=λw=>w.dG) λZ Z=>rfl
theorem yh (hF:fM w):kJ w (eY (k8 ((bU (aX w i) i jb rest).aL i (oF ((bU (aX w i) i jb rest).ps i))) i s) i) i (gm (oF (qd (w.ps i) .aF)) (aO jb (s::rest)))/\
  fM (eY (k8 ((bU (aX w i) i jb rest).aL i (oF ((bU (aX w i) i jb rest).ps i))) i s) i):=by
 have e:k8 ((bU (aX w i) i jb rest).aL i (oF ((bU (aX w i) i jb rest).ps i))) i s=(bU (aX w i) i jb rest).aL i (gm (oF (qd (w.ps i) .aF)) (aO jb (s::rest))):=by
  rw [sa];unfold k8;refine (ah)▸?_;exact dn
 refine (e)▸?_;refine ⟨lH.aL.aaZ nofun,pG ((pF (jb:=jb) (l:=rest) (i:=i) hF).congr (λx=>?_) rfl rfl)⟩;by_cases e:x=i
 ·refine e▸?_;simp only [ah,wg];rfl
 ·rw [aD e]
theorem wq (h:j≠i):eB (bU (aX w i) i jb rest) q j=eB w q j:=by unfold eB;rw [gq h]
theorem qQ (T:Tn w a aN i):(a.ps i).aJ≠some i:=r7 T.I T.M T.hn.1 (T.M.ready T.hn.1 T.hn.2.1).1
theorem Lw (T:Tn w a aN i):eB (bU (aX w i) i jb rest) i i=false:=by
 unfold eB;rw [sa,decide_eq_false (show ¬(gm (qd (w.ps i) .aF) (aO jb rest)).aJ=some i by
  show ¬(w.ps i).aJ=some i;rw [T.M.wc T.I T.hn.1];exact qQ T),Bool.and_false]
theorem Ci (T:Tn w a aN i)(hj:j<24)(hp:(a.ps j).aJ=some i)(hl:jb.bl.length<400):zB (bU (aX w i) i jb rest) i (aO jb rest):=by
 have YX:j≠i:=λe=>qQ T (by rw [e] at hp;exact hp);exact ⟨⟨j,hj,by rw [wq YX];exact (kx (T.M.D3 T.I hj hp)).2⟩,Lw T,hl⟩
theorem zR (T:Tn w a aN i)(hc:c<24)(h1:eB (bU (aX w i) i jb rest) i c=true)(h2:((bU (aX w i) i jb rest).ps c).st=.bc):tW w a i c:=by
 have fG:c≠i:=λe=>by replace h2:=(sa)▸(e)▸h2;cases h2
 rw [wq fG] at h1;rw [gq fG] at h2;refine gC (T.M.kids T.I (qH hc h1)) λZ hp Z=>?_;have hz:=(T.M.uu hc).mp h2;induction hg:(a.ps c).g with
 |free=>rw [hg] at hz;contradiction
 |live r pc=>rw [hg] at hz;injection hz
 |first s=>rw [hg] at hz;injection hz
 |fP rc=>exact (.mk rc fG (λe=>by rw [e,T.M.zL] at hp;injection hp:c≠0) hp hg (((T.M.ps c hc).at hg).status) (((T.M.ps c hc).at hg).aS))
theorem Lx (T:Tn w a aN i)(h:∀c,c<24->eB (bU (aX w i) i jb rest) i c=true->((bU (aX w i) i jb rest).ps c).st≠.bc) (hj:j<24) (hp:(a.ps j).aJ=some i) (r:Rl):(a.ps j).g≠.fP r:=λe=>by
 have YX:j≠i:=λe=>qQ T (by rw [e] at hp;exact hp);have:=h j hj (by rw [wq YX];exact (kx (T.M.D3 T.I hj hp)).2);exact ((gq YX)▸this) ((T.M.uu hj).mpr (by rw [e];rfl))
theorem tu (T:Tn w a aN i)(hz:(a.ps i).g≠.first .nil->∀j,j<24->(a.ps j).aJ=some i->∀r,(a.ps j).g≠.fP r) (U:kJ w w' i P/\fM w') (hP:PM P (qP (a.ps i)) a.fd) (Ub:cJ (qP (a.ps i))<=cJ (a.ps i) - 1) (Ek:∀r,(a.ps i).g≠.live r .B0):Out a aN w':=by
 have hi:=T.hn.1;refine gC (T.M.ready hi T.hn.2.1) λMo hgz vJ=>?_;have hS:∀f,((a.at' i).set i (qP (a.ps i))).S f=a.S f+f (qP (a.ps i)) - f (a.ps i):=λf=>ij (a:=a.at' i) hi;have Mj:∀k,(((a.at' i).set i (qP (a.ps i))).ps k).g=(a.ps k).g:=λk=>by
  by_cases e:k=i
  ·refine e▸?_;rw [bg];rfl
  ·rw [bu e];rfl
 refine (.mk _ (U.1.mt T.M hi hP U.2 ?_) ?_ (λr=>?_) ?_ ?_ ?_ (j6 (Mj 0) rfl (.inl rfl) λk r hk hr Z=>by rw [Mj];exact hr))
 ·by_cases e:i=0
  ·subst e;exact .inl ⟨rfl,T.M.z⟩
  ·exact .inr ⟨e,T.M.nz i hi e⟩
 ·refine T.I'.upd hi rfl rfl Mo Mo rfl (λj Z Z Z Z h=>?_) (λn hn=>T.I.ch i n hi hn) (λZ hn=>hz hn) (λr h=>absurd h (hgz r)) (show (a.ps i).aJ≠some i from qQ T) (λr h=>h) (λq h e=>by subst e;exact h) rfl rfl (λZ=>rfl) (λz h e=>by subst e;exact h)
  exact Ld (Q':=qP (a.ps i)) rfl h
 ·refine (?_:(((a.at' i).set i (qP (a.ps i))).ps i).g≠_)
  rw [Mj];exact Ek r
 ·rw [hS];omega
 ·rw [hS,show cU (qP (a.ps i))=cU (a.ps i) from rfl];simp+arith only
 ·rw [hS,show dX (qP (a.ps i))=dX (a.ps i) from rfl]
  refine (?_:(a.np:Int)+_<=_);simp+arith only
end
def nG.ZF (r:Rl)(pc pc':PC)(Z:Prop):Prop:=∀(hp:qh pc=.wait::qh pc')(f:nk r pc')(w:k9 pc=true)(m:mask pc=M3)(m':mask pc'=M3)(st:DS pc'+1<=DS pc)(n:∃n,need (.live r pc)=some n/\1<=n/\∀n',need (.live r pc')=some n'->n - 1=n') (b:pc'≠.B0) (xe:∀r' i q,q.g=.live r pc->i≠0->fj.uk r' i q->qK r'=0/\(∀p p' q fl,kF (jE p r pc')=kF ⟨.live r pc,fl,p',q⟩+K8 r')/\uj r'=[]/\0<=vZ r') (m6:need (.live r pc)=some 1\/∀r' i q q',q.g=.live r pc->q'.g=.live r pc'->i≠0->fj.uk r' i q->fj.uk r' i q') (dl:zI (.live r pc')=zI (.live r pc)) (cJ:∀p q,cJ (jE p r pc')<=cJ ⟨.live r pc,false,p.aS,q⟩) (cU:∀p q,cU (jE p r pc')<=cU ⟨.live r pc,false,p.aS,q⟩) (dX:∀p q,dX (jE p r pc')<=dX ⟨.live r pc,false,p.aS,q⟩),Z
def nG (r pc pc'):=∀Z:Prop,nG.ZF r pc pc' Z->Z
theorem nG.mk:nG.ZF r pc pc' (nG r pc pc'):=λhp f w m m' st n b xe m6 dl cJ cU dX _ Z=>Z hp f w m m' st n b xe m6 dl cJ cU dX
def nG.hp (Z:nG r pc pc'):=Z _ λhp f w m m' st n b xe m6 dl cJ cU dX=>hp
def nG.f (Z:nG r pc pc'):=Z _ λhp f w m m' st n b xe m6 dl cJ cU dX=>f
def nG.w (Z:nG r pc pc'):=Z _ λhp f w m m' st n b xe m6 dl cJ cU dX=>w
def nG.m (Z:nG r pc pc'):=Z _ λhp f w m m' st n b xe m6 dl cJ cU dX=>m
def nG.m' (Z:nG r pc pc'):=Z _ λhp f w m m' st n b xe m6 dl cJ cU dX=>m'
def nG.st (Z:nG r pc pc'):=Z _ λhp f w m m' st n b xe m6 dl cJ cU dX=>st
def nG.n (Z:nG r pc pc'):=Z _ λhp f w m m' st n b xe m6 dl cJ cU dX=>n
def nG.b (Z:nG r pc pc'):=Z _ λhp f w m m' st n b xe m6 dl cJ cU dX=>b
def nG.xe (Z:nG r pc pc'):=Z _ λhp f w m m' st n b xe m6 dl cJ cU dX=>xe
def nG.m6 (Z:nG r pc pc'):=Z _ λhp f w m m' st n b xe m6 dl cJ cU dX=>m6
def nG.dl (Z:nG r pc pc'):=Z _ λhp f w m m' st n b xe m6 dl cJ cU dX=>dl
def nG.cJ (Z:nG r pc pc'):=Z _ λhp f w m m' st n b xe m6 dl cJ cU dX=>cJ
def nG.cU (Z:nG r pc pc'):=Z _ λhp f w m m' st n b xe m6 dl cJ cU dX=>cU
def nG.dX (Z:nG r pc pc'):=Z _ λhp f w m m' st n b xe m6 dl cJ cU dX=>dX
section
theorem XZ:nG .c .C1 .C2:=by
 refine (.mk rfl .cC2 rfl rfl rfl (by decide) ⟨1,rfl,by decide,λn h=>by cases h;rfl⟩ (pR rfl) (λr' i q hq hi h=>?_) (.inl rfl) rfl (λp q=>(by decide:(25+0:Int)<=25+1)) (λp q=>(by decide:(0+3:Int)<=0+3)) (λp q=>Int.le_refl 1));induction h with
 |z h=>exact absurd h hi
 |k h=>exact (Option.some.inj (hq▸h.fn:Xx (.live .c .C1)=some r'))▸⟨rfl,λZ Z Z Z=>rfl,rfl,by decide⟩
theorem FJ (r':Rl)(i:Nat)(q:AP)(hq:q.g=.live .b pc)(hi:i≠0)(h:fj.uk r' i q):r'=.lq:=by
 induction h with
 |z h=>exact absurd h hi
 |k h=>rw [hq] at h;cases h<;>rfl
theorem Um:nG .b .B3 .B4:=by
 refine (.mk rfl .bB4 rfl rfl rfl (by decide) ⟨2,rfl,by decide,λn h=>by cases h;rfl⟩ (pR rfl) (λr' i q hq hi h=>?_) (.inr λr' i q q' hq VU hi h=>?_) rfl (λp q=>Int.le_refl (3+1)) (λp q=>Int.le_refl (1+0)) (λp q=>Int.le_refl 0))
 ·cases FJ r' i q hq hi h
  exact ⟨rfl,λZ Z Z Z=>rfl,rfl,by decide⟩
 ·cases FJ r' i q hq hi h
  exact .k (by rw [VU];exact .b4)
theorem Un:nG .b .B4 .X0:=by
 refine (.mk rfl .bX0 rfl rfl rfl (by decide) ⟨1,rfl,by decide,λn h=>by cases h;rfl⟩ (pR rfl) (λr' i q hq hi h=>?_) (.inl rfl) rfl (λp q=>(by decide:(3+0:Int)<=3+1)) (λp q=>Int.le_refl (1+0)) (λp q=>Int.le_refl 0));cases FJ r' i q hq hi h;exact ⟨rfl,λZ Z Z Z=>rfl,rfl,by decide⟩
theorem Mt.mW (M:Mt w a)(U:uw w w' i c P)(fG:c≠i)(ir:c≠0)(hp:PM P p fd)(Mp:(∃s,p.g=.first s)↔i=0) (h0:i≠0->fd=a.fd):Mt w' ((a.at' i).mW i c p fd):=by
 refine M.chg (λk hk=>?_) (U.next.trans M.next) U.last (U.fst.trans M.fst) U.hF ⟨U.np.1.trans M.np.1,U.np.2.trans M.np.2⟩;by_cases e:k=i
 ·subst e
  rw [U.eV,th];exact .inr ⟨hp,Mp⟩
 ·by_cases e':k=c
  ·subst e'
   rw [U.at2,Lb fG];exact .inr ⟨rfl,⟨λ⟨s,h⟩=>(by injection h),λh=>absurd h ir⟩⟩
  ·rw [U.ne k e e',r6 e e']
   exact .inl ⟨rfl,rfl,λh=>h0 λh'=>e (h.trans h'.symm)⟩
theorem Ly (h:p.g=.fP r):1<=cJ p:=by unfold cJ;rw [h];show 1<=if _ then (2:Int) else 1;split<;>decide
theorem Cj (T:Tn w a aN i)(U:uw w w' i c P)(hc:c<24)(Z:tW w a i c)(hp:PM P p fd)(Mp:(∃s,p.g=.first s)↔i=0) (h0:i≠0->fd=a.fd) (Po:∀r,p.g≠.live r .B0)
  (hI:Inv ((a.at' i).mW i c p fd) aN/\∀bf z,iK bf z a->iK bf z ((a.at' i).mW i c p fd)) (Ub:cJ p<=cJ (a.ps i)) (XQ:cU p<=cU (a.ps i)) (aa1:dX p<=dX (a.ps i)):Out a aN w':=by
 refine Z _ λrc fG ir HX CG _ _=>?_;refine cX hI λVe tT=>?_;have hS:∀f:AP->Int,f kG=0->((a.at' i).mW i c p fd).S f=a.S f+f p - f (a.ps i) - f (a.ps c):=λf h=>by
  rw [v7 T.hn.1 hc fG];refine (?_:a.S f+f p - f (a.ps i)+_ - f (a.ps c)=_);rw [h,Int.add_zero]
 refine (.mk _ (T.M.mW U fG ir hp Mp h0) Ve (λr' e=>?_) ?_ ?_ ?_ tT)
 ·have e1:p.g=.live r' .B0:=by rw [<- th (a:=a.at' i) (i:=i) (c:=c) (p:=p) (fd:=fd)];exact e
  exact Po r' e1
 ·rw [hS cJ rfl]
  have:=Ly CG;grind only
 ·rw [hS cU rfl]
  have:0<=cU (a.ps c):=by unfold cU;simp only [CG];show 0<=vZ rc;induction rc<;>decide
  grind only
 ·rw [hS dX rfl]
  have:=wj (p:=a.ps c);refine (?_:(a.np:Int)+_<=_);grind only
theorem PG (h:qi a i=1)(hc:c<24)(hj:j<24)(h1:(a.ps c).aJ=some i)(h2:(a.ps j).aJ=some i):j=c:=by
 refine Classical.byContradiction λdw=>?_;have:=Kg (f:=λj=>if (a.ps j).aJ=some i then 1 else 0) 24 hc hj (Ne.symm dw) (λx Z=>by show 0<=(if (a.ps x).aJ=some i then (1:Int) else 0);split<;>decide);rw [if_pos h1,if_pos h2] at this;have e:fF (λj=>if (a.ps j).aJ=some i then 1 else 0) 24=1:=h;simp only [e] at this;exact absurd this (by decide)
theorem Eb (T:Tn w a aN i)(dk:i≠0)(hg:(a.ps i).g=.live r pc)(F:nG r pc pc'):gr w a aN i:=by
 have hi:=T.hn.1;refine (T.M.live hi hg) _ λjb sl hj d0 hl hf hm _=>?_;have hlen:jb.aI.length<300:=by rw [d0];exact mY _
 replace d0:=(F.hp)▸d0;refine tE F.n λn hn Mb uc=>?_;have DV:qi a i=n:=T.I.ch i n hi (by refine (hg)▸?_;exact hn);have e:=mq hg (T.M.ready hi T.hn.2.1).2.2;have hk:∃j,j<24/\(a.ps j).aJ=some i:=by
  refine aQ (rU (f:=λj=>if (a.ps j).aJ=some i then 1 else 0) 24 (by rw [show fF _ 24=n from DV];assumption)) λj hj h=>?_;exact ⟨j,hj,Classical.byContradiction λhn=>by rw [if_neg hn] at h;exact absurd h (by decide)⟩
 refine aQ hk λj zH hjp=>?_;have hs9:=Lo pc;refine qj T hj d0 hf hlen (Ci T zH hjp (by grind only)) ⟨λc hc h1 h2=>?_,λh=>?_⟩
 ·have Z':=(zR T hc h1 h2)
  refine Z' _ λrc fG ir HX CG hcs Lz=>?_;refine (T.I.aJ c hc ir (by rw [CG];exact eD rfl)) _ λq e1 _ _ _ e5=>?_;cases Option.some.inj (e1.symm.trans HX);rw [CG] at e5;refine tD (F.xe rc _ _ hg dk e5) λk1 k2 k3 k4=>?_;refine Cj (p:=jE (a.ps i) r pc') (fd:=a.fd) T (Cg T.M.hF fG hi hc hf true) hc (zR T hc h1 h2) (zP (T.M.ps i hi) hg F.f (by rw [F.m'];rw [F.m] at hm;exact hm) ?_) ⟨λ⟨s,h⟩=>(by injection h),λh=>absurd h dk⟩ (λZ=>rfl) (λr' h=>by cases h;exact F.b rfl) ⟨?_,?_⟩ ?_ ?_ ?_
  ·refine (?_:(jb.bl++[_]).length+DS pc'<=9)
   refine (List.length_append)▸?_;have:=F.st;refine (?_:jb.bl.length+1+_<=9);grind only
  ·refine T.I'.mW hi hc fG ir CG HX rfl rfl (by show (a.ps i).g≠_;rw [hg];exact eD rfl) (eD rfl) (by show _=bR (a.ps i).g;rw [hg];rfl) rfl (λx hx Z hxc Z Tv h=>?_) (show (a.ps i).aJ≠some i from qQ T) (λn' h=>?_) (λZ=>eD rfl) (λr' h=>by cases h;exact F.b rfl) (.inl rfl) (λh=>absurd h dk) ?_ ?_ (λs=>?_) (λZ=>eD rfl)
   ·rcases F.m6 with h1|h1
    ·exact absurd (PG (DV.trans (Option.some.inj (hn.symm.trans h1))) hc hx HX Tv) hxc
    ·refine aQ (j5 h) λr' h2 h3=>?_
     exact zM h2 (h1 r' i _ _ hg rfl dk h3)
   ·refine (?_:qi a i - 1=n')
    refine (DV)▸?_;exact uc n' h
   ·refine (?_:qK r=ln (a.ps i)+ln (a.ps c))
    rw [show ln (a.ps c)=qK rc by unfold ln;rw [CG],k1,e];exact (Int.add_zero _).symm
   ·refine (?_:_=kF (a.ps i)+kF (a.ps c))
    rw [show kF (a.ps c)=K8 rc by unfold kF;rw [CG],e];exact k2 _ _ _ _
   ·refine (?_:cI s (a.fd.map (·.2))+cI s (zI (.live r pc'))=_+dl s (a.ps i)+dl s (a.ps c))
    rw [F.dl,show dl s (a.ps c)=0 by unfold dl;rw [CG];show cI s (uj rc)=0;rw [k3];rfl];unfold dl;rw [hg];exact (Int.add_zero _).symm
  ·refine j6 ?_ rfl (.inl rfl) λx r' hx hr hl=>?_
   ·rw [r6 (Ne.symm dk) (Ne.symm ir)];rfl
   ·by_cases e1:x=i
    ·subst e1;rw [th];rw [hg] at hr;exact hr
    ·by_cases e2:x=c
     ·subst e2;replace hr:=(CG)▸hr;cases hr;replace hl:=(k1)▸hl;contradiction
     ·rw [r6 e1 e2];exact hr
  ·rw [e];exact F.cJ _ _
  ·rw [e];exact F.cU _ _
  ·rw [e];exact F.dX _ _
 ·refine tu T (λZ j hj hp r=>Lx T h hj hp r) (yh T.M.hF) ?_ ?_ (λr' h=>by replace h:=(hg)▸h;cases h;exact absurd F.w (IG rfl))
  ·have hP:=(T.M.ps i hi).at hg
   exact .Pa (p:=qP (a.ps i)) hg (.mk hP.fit hP.aS hP.aJ (.mk _ rfl F.hp.symm hl) (.mk sl hf hm) (.mk rfl (congrArg Ch.child hP.aS) F.w))
  ·delta cJ qP
   refine (e)▸?_;refine (?_:DT pc+(if k9 pc=true/\true=false then 1 else 0)<=DT pc+(if k9 pc=true/\false=false then 1 else 0) - 1);rw [if_neg (λh=>by injection h.2),if_pos ⟨F.w,rfl⟩];simp+arith only
end
section
theorem oP (h:bR p.g=some r):ln p=qK r:=by
 unfold ln;induction hg:p.g with
 |free=>rw [hg] at h;injection h
 |first s=>rw [hg] at h;injection h
 |fP r'=>rw [hg] at h;cases h;rfl
 |live r' pc=>replace h:=(hg)▸h;cases h;rfl
theorem PH (hf:∀s,p.g≠.first s) (h:ln p≠0):∃r,bR p.g=some r:=by
 unfold ln at h;induction hg:p.g with
 |free=>rw [hg] at h;exact absurd rfl h
 |first s=>exact absurd hg (hf s)
 |fP r=>exact ⟨r,rfl⟩
 |live r pc=>exact ⟨r,rfl⟩
def tw.ZF (a:A)(n:Int)(Z:Prop):Prop:=∀(k:Nat)(r:Rl)(hk:k<24)(qT:k≠0)(hr:bR (a.ps k).g=some r)(hl:qK r=1)(aS:(a.ps k).aS=n)(aJ:(a.ps k).aJ=some 0),Z
def tw (a n):=∀Z:Prop,tw.ZF a n Z->Z
theorem tw.mk:tw.ZF a n (tw a n):=λk r hk qT hr hl aS aJ _ Z=>Z k r hk qT hr hl aS aJ
theorem LA:∀r,qK r=0\/qK r=1
 |.r|.lq|.ka|.b|.f7=>.inl rfl
 |.kd|.c|.rl=>.inr rfl
theorem zS (M:Mt w a)(I:Inv a aN)(hg:(a.ps 0).g=.first (.until n)):tw a n:=by
 have h:0<fF (λj=>if j=0 then 0 else ln (a.ps j)) 24:=by
  rw [mf (f:=λj=>ln (a.ps j)) 24 (i:=0) (by decide) (λj hj=>if_neg hj),if_pos rfl,show fF (λj=>ln (a.ps j)) 24=0 from I.qM,show ln (a.ps 0)=-1 by unfold ln;rw [hg]];decide
 refine aQ (rU 24 h) λk hk h=>?_;by_cases e:k=0
 ·rw [if_pos e] at h;exact absurd h (by decide)
 ·replace h:=(if_neg e)▸h
  obtain ⟨r,hr⟩:=PH (M.nz k hk e) (Int.ne_of_gt h);rw [oP hr] at h;have hl:qK r=1/\∀q Q,fj.uk r q Q->q=0:=by
   have h1:qK r=1:=(LA r).resolve_left (Int.ne_of_gt h);refine ⟨h1,λq Q hr=>?_⟩;induction hr with
   |z h=>exact h
   |k h=>exact absurd (h1.symm.trans (T1 h)) (by decide)
  refine (I.line k hk e (by rw [oP hr];exact hl.1)) _ λn' h1 h2=>?_;replace h1:=(hg)▸h1;cases h1;refine (I.aJ k hk e (λh=>by rw [h] at hr;injection hr)) _ λq e1 _ _ _ e5=>?_;refine aQ (j5 e5) λr' h3 h4=>?_;replace h3:=(hr)▸h3;cases h3;rw [hl.2 _ _ h4] at e1;exact (.mk k r hk e hr hl.1 h2 e1)
theorem FK (h:Xw r=true):K8 r=0/\uj r=[vY r]:=by
 induction r with
 |lq=>injection h
 |ka=>injection h
 |_=>exact ⟨rfl,rfl⟩
theorem Hx {s:FS}{Q:AP}(hQ:Q.g=.first s)(h:fj.uk r q Q):K8 r=0/\uj r=[vY r]:=by
 induction h with
 |z h t=>exact FK t
 |k h=>replace h:=(hQ)▸h;contradiction
noncomputable def fH (n m:Int):FS:=if decide (m=n)=true then .nil else .until n
theorem LB:∀z,fH n m≠.cN z:=λz=>by unfold fH;split<;>nofun
theorem wt (n m aS:Int)(o:Option Nat):cJ ⟨.first (fH n m),false,aS,o⟩=1/\cU ⟨.first (fH n m),false,aS,o⟩=0/\dX ⟨.first (fH n m),false,aS,o⟩=0:=by
 have h:fH n m=.nil\/fH n m=.until n:=by
  unfold fH;split
  ·exact .inl rfl
  ·exact .inr rfl
 rcases h with h|h<;>(rw [h];exact ⟨rfl,rfl,rfl⟩)
theorem Hy (T:Tn w a aN 0)(hg:(a.ps 0).g=.first (.until n))(hc:c<24)(Z:tW w a 0 c)(PJ:(a.ps c).g=.fP rc):
  Inv ((a.at' 0).mW 0 c ⟨.first (fH n (a.ps c).aS),false,(a.ps 0).aS,(a.ps 0).aJ⟩ (a.fd++[((a.ps c).aS,vY rc)])) aN/\
   ∀bf z,iK bf z a->iK bf z ((a.at' 0).mW 0 c ⟨.first (fH n (a.ps c).aS),false,(a.ps 0).aS,(a.ps 0).aJ⟩ (a.fd++[((a.ps c).aS,vY rc)])):=by
 refine Z _ λ_ fG ir HX _ _ _=>?_;have iO:(a.ps c).g≠.free:=by rw [PJ];exact eD rfl
 refine (T.I.aJ c hc ir iO) _ λq e1 _ _ _ e5=>?_;cases Option.some.inj (e1.symm.trans HX);rw [PJ] at e5;obtain ⟨k2,k3⟩:=Hx hg e5;have hlc:ln (a.ps c)=qK rc:=oP (by refine (PJ)▸?_;rfl);have La:ln (a.ps 0)=-1:=by unfold ln;rw [hg]
 refine (zS T.M T.I hg) _ λk r hk qT hr hl eI _=>?_;have aa3:(a.ps c).aS=n->qK rc=1:=λh=>by
  have e:=T.I.gn c k hc hk iO (λh=>by rw [h] at hr;injection hr:(a.ps k).g≠.free) (h.trans eI.symm);rw [<- e,PJ] at hr;cases hr;exact hl
 have X1:qK rc=1->(a.ps c).aS=n:=λh=>by
  refine (T.I.line c hc ir (hlc.trans h)) _ λq h1 h2=>?_;replace h1:=(hg)▸h1;cases h1;exact h2
 have YY:(a.ps c).aS=n->fH n (a.ps c).aS=.nil:=λh=>if_pos (decide_eq_true h);have QN:(a.ps c).aS≠n->fH n (a.ps c).aS=.until n:=λh=>if_neg (λh'=>h (of_decide_eq_true h'));refine ⟨T.I'.mW (by decide) hc fG ir PJ HX rfl rfl (by show (a.ps 0).g≠_;rw [hg];exact eD rfl) (eD rfl) (by show _=bR (a.ps 0).g;rw [hg];rfl) rfl (λx Y Y Y Y Y h=>Uk (show ((a.at' 0).ps 0).g=_ from hg) h) (show (a.ps 0).aJ≠some 0 from qQ T) (λY=>ip rfl) (λY=>eD rfl) (λY=>eD rfl) (.inr rfl)
  (λY j hj iq Aa hl q h1 h2=>?_) ?_ ?_ (λs=>?_) (λz h=>LB z (by injection h)),λbf z L=>?_⟩
 ·replace h1:=(show ((a.at' 0).ps 0).g=_ from hg)▸h1
  cases h1;refine (?_:Gh.first (fH n (a.ps c).aS)=_);rw [QN (λh=>Aa (T.I.gn j c hj hc (λhf=>by unfold ln at hl;rw [show ((a.at' 0).ps j).g=_ from hf] at hl;contradiction) iO (h2.trans h.symm)))]
 ·refine (?_:_=ln (a.ps 0)+ln (a.ps c))
  simp only [La,hlc];by_cases h:(a.ps c).aS=n
  ·rw [YY h,aa3 h];rfl
  ·rw [QN h,(LA rc).resolve_right λh'=>h (X1 h')];rfl
 ·refine (?_:0=kF (a.ps 0)+kF (a.ps c))
  simp only [show kF (a.ps 0)=0 by unfold kF;rw [hg],show kF (a.ps c)=K8 rc by unfold kF;rw [PJ],k2];rfl
 ·refine (?_:cI s ((a.fd++[((a.ps c).aS,vY rc)]).map (·.2))+cI s (zI (.first (fH n (a.ps c).aS)))=cI s (a.fd.map (·.2))+dl s (a.ps 0)+dl s (a.ps c))
  have h1:zI (.first (fH n (a.ps c).aS))=[]:=by unfold fH;split<;>rfl
  simp only [List.map_append,mZ,h1];unfold dl;simp only [hg,PJ];refine (?_:cI s _+cI s [vY rc]+0=cI s _+0+cI s (uj rc));simp only [k3];simp+arith only
 ·induction L with
  |t h _=>rw [hg] at h;cases h
  |d h _=>rw [hg] at h;cases h
  |e h _=>rw [hg] at h;cases h
  |u h r' x hx hx0 Mr hxl kI=>
   rw [hg] at h;cases h;by_cases h:(a.ps c).aS=n
   ·refine .d (by rw [th];refine (?_:Gh.first _=_);rw [YY h]) (List.mem_append_right _ (List.mem_singleton.mpr ?_))
    refine (T.I.line x hx hx0 (by rw [oP Mr];exact hxl)) _ λq h1 h2=>?_;replace h1:=(hg)▸h1;cases h1;replace Mr:=(PJ)▸((T.I.gn x c hx hc (λh=>by rw [h] at Mr;injection Mr) iO (h2.trans h.symm)))▸Mr;cases Mr;simp only [h,kI]
   ·refine .u (by rw [th];refine (?_:Gh.first _=_);rw [QN h]) r' x hx hx0 ?_ hxl kI
    have hxc:x≠c:=λe=>by
     replace Mr:=(PJ)▸(e)▸Mr;cases Mr;exact h (X1 hxl)
    rw [r6 hx0 hxc];exact Mr
theorem PK (T:Tn w a aN 0)(hg:(a.ps 0).g=.first (.until n)):gr w a aN 0:=by
 refine (T.M.r9 hg) _ λjb sl hj d0 hs hf hm=>?_;have hlen:jb.aI.length<300:=by rw [(d0:jb.aI=[.until n])];exact (by decide:1<300)
 refine (zS T.M T.I hg) _ λk r hk qT hr hl eI ky=>?_;have e:=tr hg (T.M.ready (by decide) T.hn.2.1).2.2;have vX:=T.C.fd;refine qj T hj (d0:jb.aI=[.until n]) hf hlen (Ci T hk ky (by rw [hs];exact Nat.lt_of_le_of_lt ‹_› (by decide))) ⟨λc hc h1 h2=>?_,λh=>?_⟩
 ·have Z:=zR T hc h1 h2
  have Z':=Z;refine Z' _ λrc fG ir HX CG hcs Lz=>?_;rw [gq fG,Lz];refine Cj (p:=⟨.first (fH n (a.ps c).aS),false,(a.ps 0).aS,(a.ps 0).aJ⟩) (fd:=a.fd++[((a.ps c).aS,vY rc)]) T (Cg T.M.hF fG (by decide) hc hf (decide ((a.ps c).aS=n))) hc Z ?_ ⟨λz=>rfl,λz=>⟨_,rfl⟩⟩ (λh=>absurd rfl h) (λz=>eD rfl) (Hy T hg hc Z CG) ?_ ?_ ?_
  ·have:(if decide ((a.ps c).aS=n)=true then [] else [rN.until n])=YT (fH n (a.ps c).aS):=by unfold fH;split<;>rfl
   rw [this];exact FE (T.M.ps 0 (by decide)) hg (by show jb.bl++[_]=_;simp only [hs,hcs,Lz]) hm
  ·rw [(wt _ _ _ _).1,e];exact Int.le_refl 1
  ·rw [(wt _ _ _ _).2.1,e];exact Int.le_refl 0
  ·rw [(wt _ _ _ _).2.2,e];exact Int.le_refl 0
 ·refine tu T (λz j hj hp r=>Lx T h hj hp r) (yh (i:=0) (jb:=jb) (s:=.until n) (rest:=[]) T.M.hF) ?_ ?_ (λr' h=>by rw [hg] at h;injection h)
  ·have hP:=(T.M.ps 0 (by decide)).at hg
   exact .Pa (p:=qP (a.ps 0)) hg (.mk hP.aS hP.pS hP.aJ (.mk _ rfl rfl hs) (.mk sl hf hm) (.mk rfl (.un n rfl (congrArg Ch.child hP.aS))))
  ·delta cJ qP
   refine (e)▸?_;exact (by decide:(0+0:Int)<=0+1 - 1)
theorem Uo (T:Tn w a aN 0)(hg:(a.ps 0).g=.first .nil):gr w a aN 0:=by
 refine (T.M.r9 hg) _ λjb sl hj d0 hs hf hm=>?_;have d0:jb.aI=[]:=d0;have HY:=T.C.XO;have e:=tr hg (T.M.ready (by decide) T.hn.2.1).2.2;refine (.mk (.mk ⟨jb,sl,T.M.we T.I (by decide) hj hf T.hu (by rw [d0];exact (by decide:0<300)) (by exact Nat.lt_of_lt_of_le ‹_› (by decide)),.inl ⟨rfl,d0⟩⟩) (λw' R=>?_));induction R with
 |step B5 sl' s rest w1 b k0 pz wH D=>
  replace k0:=(hj)▸k0;cases k0;replace wH:=(d0)▸wH;injection wH
 |idle B5 h0 k0 wH=>
  refine tu T (λh=>absurd hg h) ⟨zO.aL,T.M.hF.congr (λx=>?_) rfl rfl⟩ ?_ ?_ (λr' h=>by rw [hg] at h;injection h)
  ·by_cases e:x=0
   ·subst e;rw [ah,oH];rfl
   ·rw [aD e];exact congrArg Pr.fl (zO.ne x e)
  ·rw [oH]
   exact .Pa (p:=qP (a.ps 0)) hg (.mk (((T.M.ps 0 (by decide)).at hg).aS) (((T.M.ps 0 (by decide)).at hg).pS) (((T.M.ps 0 (by decide)).at hg).aJ) (.mk _ hj d0 hs) (.mk sl hf hm) (.mk rfl (.nil rfl rfl)))
  ·delta cJ qP
   refine (e)▸?_;exact (by decide:(0+0:Int)<=0+1 - 1)
end
def tA.ZF (w w':W)(i c1 c2:Nat)(P Q1 Q2:Pr)(Z:Prop):Prop:=∀(sd:w'.ps i=P)(eV:w'.ps c1=Q1)(at2:w'.ps c2=Q2)(ne:∀k,k≠i->k≠c1->k≠c2->w'.ps k=w.ps k) (hF:fM w') (next:w'.next=w.next+1+1) (last:w'.last=i) (fst:w.fst=some 0->w'.fst=some 0) (np:w'.eu=w.eu+1/\w'.dG=w.dG+1+1),Z
def tA (w w' i c1 c2 P Q1 Q2):=∀Z:Prop,tA.ZF w w' i c1 c2 P Q1 Q2 Z->Z
theorem tA.mk:tA.ZF w w' i c1 c2 P Q1 Q2 (tA w w' i c1 c2 P Q1 Q2):=λsd eV at2 ne hF next last fst np _ Z=>Z sd eV at2 ne hF next last fst np
def tA.sd (Z:tA w w' i c1 c2 P Q1 Q2):=Z _ λsd eV at2 ne hF next last fst np=>sd
def tA.eV (Z:tA w w' i c1 c2 P Q1 Q2):=Z _ λsd eV at2 ne hF next last fst np=>eV
def tA.at2 (Z:tA w w' i c1 c2 P Q1 Q2):=Z _ λsd eV at2 ne hF next last fst np=>at2
def tA.ne (Z:tA w w' i c1 c2 P Q1 Q2):=Z _ λsd eV at2 ne hF next last fst np=>ne
def tA.hF (Z:tA w w' i c1 c2 P Q1 Q2):=Z _ λsd eV at2 ne hF next last fst np=>hF
def tA.next (Z:tA w w' i c1 c2 P Q1 Q2):=Z _ λsd eV at2 ne hF next last fst np=>next
def tA.last (Z:tA w w' i c1 c2 P Q1 Q2):=Z _ λsd eV at2 ne hF next last fst np=>last
def tA.fst (Z:tA w w' i c1 c2 P Q1 Q2):=Z _ λsd eV at2 ne hF next last fst np=>fst
def tA.np (Z:tA w w' i c1 c2 P Q1 Q2):=Z _ λsd eV at2 ne hF next last fst np=>np
section
def KX.ZF (w X:W)(i c:Nat)(P Q:Pr)(Z:Prop):Prop:=∀(sd:X.ps i=P)(eV:X.ps c=Q)(ne:∀k,k≠i->k≠c->X.ps k=w.ps k) (next:X.next=w.next+1) (last:X.last=i) (fst:w.fst=some 0->X.fst=some 0) (eu:X.eu=w.eu+1) (dG:X.dG=w.dG+1+1),Z
def KX (w X i c P Q):=∀Z:Prop,KX.ZF w X i c P Q Z->Z
theorem KX.mk:KX.ZF w X i c P Q (KX w X i c P Q):=λsd eV ne next last fst eu dG _ Z=>Z sd eV ne next last fst eu dG
def KX.sd (Z:KX w X i c P Q):=Z _ λsd eV ne next last fst eu dG=>sd
def KX.eV (Z:KX w X i c P Q):=Z _ λsd eV ne next last fst eu dG=>eV
def KX.ne (Z:KX w X i c P Q):=Z _ λsd eV ne next last fst eu dG=>ne
def KX.next (Z:KX w X i c P Q):=Z _ λsd eV ne next last fst eu dG=>next
def KX.last (Z:KX w X i c P Q):=Z _ λsd eV ne next last fst eu dG=>last
def KX.fst (Z:KX w X i c P Q):=Z _ λsd eV ne next last fst eu dG=>fst
def KX.eu (Z:KX w X i c P Q):=Z _ λsd eV ne next last fst eu dG=>eu
def KX.dG (Z:KX w X i c P Q):=Z _ λsd eV ne next last fst eu dG=>dG
theorem X2 (PL:c≠i)(e:(sl.set 3 (some f1)).set 4 (some f2)=sl'):KX w (eX (iS (bU (aX w i) i jb []) i f1 f2 3 4 sl) i c sl' (aO jb []) ja st) i c (gm (mS (gm (qd (w.ps i) .aF) (aO jb [])) (some sl')) (d8 (aO jb []) w.next)) (gm (kz w.next i sl') ⟨ja,st,[],0⟩):=by
 subst e;refine (.mk ?_ (kC PL) (λk h h'=>(gA h h').trans ((aD h).trans (gq h))) bE.2.2.2.1 mn (λh=>bE.2.2.1.trans (congrArg (λo=>some (Option.getD o c)) h)) bE.2.2.2.2.2 bE.2.2.2.2.1);rw [fN];unfold iS;rw [ah,sa];rfl
theorem Up (K:KX w X i c1 (gm (mS P (some sl)) (d8 jb w.next)) Q)(hF:fM (eX X i c2 sl (d8 jb w.next) ja st))(PL:c1≠i)(UT:c2≠i)(YZ:c2≠c1)(hs:P.st=.aF):
  tA w (eY (dr X i c2 sl (d8 jb w.next) ja st st2) i) i c1 c2 (qU (gm (mS P (some sl)) (aO (d8 (d8 jb w.next) (w.next+1)) (st2++jb.aI)))) Q (gm (kz (w.next+1) i sl) ⟨ja,st,[],0⟩):=by
 have ei:(dr X i c2 sl (d8 jb w.next) ja st st2).ps i=gm (mS P (some sl)) (aO (d8 (d8 jb w.next) (w.next+1)) (st2++jb.aI)):=by
  unfold dr;rw [ah,K.sd,K.next];rfl
 have ek:∀k,k≠i->k≠c2->(dr X i c2 sl (d8 jb w.next) ja st st2).ps k=X.ps k:=λk h h'=>(aD h).trans (gA h h');have hF2:fM (dr X i c2 sl (d8 jb w.next) ja st st2):=by
  refine hF.congr (λx=>?_) rfl rfl;by_cases e:x=i
  ·cases e;exact (congrArg Pr.fl ei).trans (by simp only [fN,K.sd];rfl)
  ·exact congrArg Pr.fl (aD e)
 have hw:∀{α:Type}(f:W->α),(∀(w:W)(i:Nat)(P:Pr),f (w.aL i P)=f w)->f (eY (dr X i c2 sl (d8 jb w.next) ja st st2) i)=f (eX X i c2 sl (d8 jb w.next) ja st):=λf h=>(wi (λw P=>h w i P)).trans (h _ _ _);exact (.mk ((D4 (by rw [ei];exact hs)).trans (congrArg qU ei)) ((qN PL).trans ((ek c1 PL (Ne.symm YZ)).trans K.eV)) ((qN UT).trans ((aD UT).trans ((kC UT).trans (by rw [K.next])))) (λk h h' lU=>(qN h).trans ((ek k h lU).trans (K.ne k h h'))) (pG hF2)
  ((hw (λw=>w.next) (λZ Z Z=>rfl)).trans (bE.2.2.2.1.trans (congrArg (·+1) K.next))) ((hw (λw=>w.last) (λZ Z Z=>rfl)).trans (mn.trans K.last)) (λh=>(hw (λw=>w.fst) (λZ Z Z=>rfl)).trans (bE.2.2.1.trans (congrArg (λo=>some (Option.getD o c2)) (K.fst h))))
  ⟨(hw (λw=>w.eu) (λZ Z Z=>rfl)).trans (bE.2.2.2.2.2.trans K.eu),(hw (λw=>w.dG) (λZ Z Z=>rfl)).trans (bE.2.2.2.2.1.trans K.dG)⟩)
theorem LC (Y:Ready (aX w i) i jb sl)(h3:M3 sl)(xq:w.dG+2<=30)(HY:w.eu<800)(q1:f1∉w.fs)(q2:f2∉w.fs)(q3:f2≠f1)(xt:c1<24)(YY:(w.ps c1).st=.ae)(PL:c1≠i)(Qs:c2<24)(QN:(w.ps c2).st=.ae)(UT:c2≠i)(YZ:c2≠c1):
  tA w (eY (BY (bU (aX w i) i jb []) i f1 f2 c1 c2 wC x7 sl (aO jb []) .run .run) i) i c1 c2
   (nF (w.ps i) (d8 (d8 jb w.next) (w.next+1)) (qh .B1) ((sl.set 3 (some f1)).set 4 (some f2)))
   (gm (kz w.next i ((sl.set 3 (some f1)).set 4 (some f2))) ⟨wC,qh .L0,[],0⟩)
   (gm (kz (w.next+1) i ((sl.set 3 (some f1)).set 4 (some f2))) ⟨x7,qh .Q0,[],0⟩):=by
 have hs:sl[3]?=some none/\sl[4]?=some none/\((sl.set 3 (some f1)).set 4 (some f2)).length=6:=by
  obtain ⟨_,_,_,rfl⟩:=h3;exact ⟨rfl,rfl,rfl⟩
 have Yq:=(Y.pop (by decide):Ready (bU (aX w i) i jb []) i (aO jb []) sl).pipe (n1:=3) (n2:=4) q1 q2 q3 hs.1 hs.2.1 (by decide) xq HY;have K:=X2 (w:=w) (i:=i) (jb:=jb) (st:=qh .L0) (ja:=wC) PL (Eq.refl ((sl.set 3 (some f1)).set 4 (some f2)))
 revert Yq K hs
 unfold BY;generalize (sl.set 3 (some f1)).set 4 (some f2)=sl';intro hs Yq K;exact Up (st2:=qh .B1) K ((Yq.child (ja:=wC) (st:=qh .L0) hs.2.2 xt (((congrArg Pr.st (aD PL)).trans (congrArg Pr.st (gq PL))).trans YY)).child (ja:=x7) (st:=qh .Q0) hs.2.2 Qs ((congrArg Pr.st (K.ne c2 UT YZ)).trans QN)).hF PL UT YZ rfl
theorem Inv.XO (I:Inv a aN){n:Nat}:Inv {a with np:=n} aN:=(.mk I.aJ I.p0 I.fr I.gn I.gH I.qL I.nD I.qV I.ch I.nz I.b0 I.line I.qM I.qW I.hV I.way I.last)
end
section
noncomputable def gJ (a:A)(i c1:Nat):A:=(a.at' i).spawn i c1 (jE (a.ps i) .b .B4) (.live .lq .L0)
noncomputable def mr (a:A)(i c1 c2:Nat):A:={(gJ a i c1).spawn i c2 (jE (a.ps i) .b .B1) (.live .lq .Q0) with np:=a.np+1}
theorem ux (h:Gh.live r pc=.live r' pc'):pc=pc':=by injection h
theorem PO (T:Tn w a aN i)(dk:i≠0)(hg:(a.ps i).g=.live .b .B0):∃q,(a.ps 0).g=.first (.until q):=by
 have hi:=T.hn.1;have hil:i≠a.last:=λe=>T.N .b (by refine (e)▸?_;exact hg);refine (T.I.b0 i .b hi hil hg) _ λc h1 h2 _=>?_;refine cX (T.I.QY hi hg .bB0 h1 h2 T.M.z) λh3 h4=>?_;refine (T.I.line c h4 h2 (by unfold ln;refine (h3)▸?_;rfl)) _ λq h5 _=>?_;exact ⟨q,h5⟩
theorem Ec (T:Tn w a aN i)(dk:i≠0)(hg:(a.ps i).g=.live .b .B0)(hc:c1<24)(fG:c1≠i)(ir:c1≠0)(iO:(a.ps c1).g=.free):Inv (gJ a i c1) aN:=by
 have hi:=T.hn.1;have Li:∀j,j<24->(a.ps j).aJ≠some i:=λj hj=>T.I.DU hi (by rw [hg];rfl) hj;refine T.I'.spawn hi hc fG ir iO rfl rfl (by show (a.ps i).g≠_;rw [hg];exact eD rfl) (eD rfl) (by show _=bR (a.ps i).g;rw [hg];rfl) rfl (λj hj Z Z hp Z=>absurd hp (Li j hj)) (Li i hi) (λn hn=>?_) (eD rfl) (λZ=>eD rfl) (λn hn=>by cases hn;rfl) (.k .b4) (λZ=>eD rfl)
   (λZ h=>pR rfl (ux h)) (λZ h=>pR rfl (ux h)) (λh=>absurd h dk) (λZ Z Z h=>TV h) ?_ ?_ (λs=>?_) (λZ=>eD rfl)
 ·cases hn
  rw [show qi (a.at' i) i=0 from r8 Li];rfl
 ·refine (?_:(0:Int)+0=ln (a.ps i))
  rw [(mq hg (T.M.v8 hi hg rfl).2)];rfl
 ·refine (?_:(0:Int)+0=kF (a.ps i))
  rw [(mq hg (T.M.v8 hi hg rfl).2)];rfl
 ·refine (?_:cI s [0]+cI s []=dl s (a.ps i))
  unfold dl;rw [hg];exact Int.add_zero _
theorem Hz (T:Tn w a aN i)(dk:i≠0)(hg:(a.ps i).g=.live .b .B0)(hc:c1<24)(fG:c1≠i)(ir:c1≠0)(iO:(a.ps c1).g=.free)(hd:c2<24)(wD:c2≠i)(X3:c2≠0)(wZ:(a.ps c2).g=.free)(wK:c2≠c1):Inv (mr a i c1 c2) aN:=by
 have hi:=T.hn.1;have I:=Ec T dk hg hc fG ir iO;have e1:(gJ a i c1).ps i=jE (a.ps i) .b .B4:=gB;have e2:(gJ a i c1).ps c2=a.ps c2:=gp wD wK;refine Inv.XO ?_;refine I.spawn hi hd wD X3 (by rw [e2];exact wZ) (by rw [e1];rfl) (by rw [e1];rfl) (by rw [e1];exact eD rfl) (eD rfl) (by rw [e1];rfl) rfl (λj hj Z Z hp h=>?_) (by rw [e1];exact qQ T) (λn hn=>?_) (eD rfl) (λZ=>eD rfl) (λn hn=>by cases hn;rfl) (.k .b1) (λZ=>eD rfl)
   (λZ h=>pR rfl (ux h)) (λZ h=>pR rfl (ux h)) (λh=>absurd h dk) (λZ Z Z h=>TV h) (by rw [e1];rfl) (by rw [e1];rfl) (λs=>?_) (λZ=>eD rfl)
 ·simp only [e1] at h
  refine aQ (j5 h) λr' h1 h2=>?_;cases FJ r' i _ rfl dk h2;exact zM h1 (.k .b1)
 ·cases hn
  rw [I.ch i 1 hi (by rw [e1];rfl)];rfl
 ·simp only [e1]
  refine (?_:cI s [0]+cI s []=cI s [0]);exact Int.add_zero _
theorem PQ {s m x l y n q z:Int}(h1:y=0)(h2:z=0):s+m - x+l - y+n - m+q - z=s - x+(n+l+q):=by simp only [h1,h2];simp+arith only
theorem zT (hi:i<24)(hc:c1<24)(fG:c1≠i)(hd:c2<24)(wD:c2≠i)(wK:c2≠c1)(h1:f (a.ps c1)=0)(h2:f (a.ps c2)=0){x y:Int}(hx:f (a.ps i)=x)(hy:f (jE (a.ps i) .b .B1)+f ⟨.live .lq .L0,false,a.next,some i⟩+f ⟨.live .lq .Q0,false,a.next+1,some i⟩=y):(mr a i c1 c2).S f=a.S f - x+y:=by
 have e:((gJ a i c1).spawn i c2 (jE (a.ps i) .b .B1) (.live .lq .Q0)).S f=_:=lb hi hd wD;simp only [show (gJ a i c1).S f=_ from lb (a:=a.at' i) hi hc fG,show (gJ a i c1).ps i=jE (a.ps i) .b .B4 from gB,show (gJ a i c1).ps c2=a.ps c2 from gp wD wK] at e;exact e.trans ((PQ h1 h2).trans (hx▸hy▸rfl))
inductive X4 (a:A)(i c1 c2 j:Nat):Prop
 |i (e:j=i) (h:(mr a i c1 c2).ps j=jE (a.ps i) .b .B1)
 |c2 (e:j=c2) (h:(mr a i c1 c2).ps j=⟨.live .lq .Q0,false,a.next+1,some i⟩)
 |c1 (e:j=c1) (h:(mr a i c1 c2).ps j=⟨.live .lq .L0,false,a.next,some i⟩)
 |o (h1:j≠i) (h2:j≠c2) (h3:j≠c1) (h:(mr a i c1 c2).ps j=a.ps j)
theorem wu (wD:c2≠i)(fG:c1≠i)(wK:c2≠c1)(j:Nat):X4 a i c1 c2 j:=by
 by_cases h:j=i
 ·exact .i h (h▸gB (a:=gJ a i c1))
 ·by_cases h':j=c2
  ·exact .c2 h' ((congrArg (mr a i c1 c2).ps h').trans (mX (a:=gJ a i c1) wD))
  ·by_cases lU:j=c1
   ·exact .c1 lU ((gp (a:=gJ a i c1) h h':(mr a i c1 c2).ps j=(gJ a i c1).ps j).trans ((congrArg (gJ a i c1).ps lU).trans (mX (a:=a.at' i) fG)))
   ·exact .o h h' lU ((gp (a:=gJ a i c1) h h':(mr a i c1 c2).ps j=(gJ a i c1).ps j).trans (gp (a:=a.at' i) h lU))
theorem tB {g:Gh}(h:∀s,g≠.first s) (hk:j≠0):(∃s,g=.first s)↔j=0:=⟨λ⟨s,e⟩=>absurd e (h s),λe=>absurd e hk⟩
theorem PR (M:Mt w a)(hi:i<24)(dk:i≠0)(hg:(a.ps i).g=.live .b .B0)(wD:c2≠i)(fG:c1≠i)(wK:c2≠c1)(ir:c1≠0)(X3:c2≠0)(hm:M5 sl)(hl:jb.bl.length+DS .B1<=9)
  (U:tA w w' i c1 c2 (nF (w.ps i) (d8 (d8 jb w.next) (w.next+1)) (qh .B1) sl) (gm (kz w.next i sl) ⟨wC,qh .L0,[],0⟩) (gm (kz (w.next+1) i sl) ⟨x7,qh .Q0,[],0⟩)):Mt w' (mr a i c1 c2):=by
 refine M.chg (λk hk=>?_) (U.next.trans (congrArg (·+1+1) M.next)) U.last (U.fst M.fst) U.hF ⟨U.np.1.trans (congrArg (·+1) M.np.1),U.np.2.trans ((congrArg (·+1+1) M.np.2).trans rfl)⟩;induction wu (a:=a) wD fG wK k with
 |i e h=>subst e;rw [U.sd,h];exact .inr ⟨zP (M.ps k hi) hg .bB1 hm hl,tB (λZ=>eD rfl) dk⟩
 |c2 e h=>subst e;refine (U.at2)▸(h)▸(M.next)▸?_;exact .inr ⟨zQ .Xo hm,tB (λZ=>eD rfl) X3⟩
 |c1 e h=>subst e;refine (U.eV)▸(h)▸(M.next)▸?_;exact .inr ⟨zQ .Xn hm,tB (λZ=>eD rfl) ir⟩
 |o h1 h2 h3 h=>exact .inl ⟨U.ne k h1 h3 h2,h,λZ=>rfl⟩
theorem HA (T:Tn w a aN i)(dk:i≠0)(hg:(a.ps i).g=.live .b .B0)(wD:c2≠i)(fG:c1≠i)(wK:c2≠c1)(ir:c1≠0)(X3:c2≠0)(iO:(a.ps c1).g=.free)(wZ:(a.ps c2).g=.free)(bf z:Int):iK bf z a->iK bf z (mr a i c1 c2):=by
 refine j6 (a:=a) (a':=mr a i c1 c2) ?_ rfl (.inr λz hz=>?_) (λk r' hk hr Z=>?_) bf z
 ·induction wu (a:=a) wD fG wK 0 with
  |i e=>exact absurd e.symm dk
  |c2 e=>exact absurd e.symm X3
  |c1 e=>exact absurd e.symm ir
  |o h1 h2 h3 h=>exact congrArg AP.g h
 ·obtain ⟨q,hq⟩:=PO T dk hg
  exact absurd (hz.symm.trans hq) (DQ rfl)
 ·induction wu (a:=a) wD fG wK k with
  |i e h=>rw [h];rw [e,hg] at hr;exact hr
  |c2 e h=>rw [e,wZ] at hr;injection hr
  |c1 e h=>rw [e,iO] at hr;injection hr
  |o h1 h2 h3 h=>rw [h];exact hr
theorem X5 {n:Nat}{s x:Int}(h1:(n:Int)+s<=8)(h2:x<=s)(h3:x=1):n<=7:=by grind only
theorem X6 {s t:Int}(h:t=s - 21+20):t<=s - 1:=by grind only
theorem X7 {s t:Int}(h:t=s - 3+3):t<=s:=by grind only
theorem X8 {n:Nat}{s t:Int}(h:t=s - 1+0):((n+1:Nat):Int)+t<=n+s:=by grind only
theorem yi (M:Mt w a)(h:(a.ps j).g=.free):j≠0:=λe=>by
 obtain ⟨s,hs⟩:=M.z;rw [e,hs] at h;injection h
theorem Ck (h:p.g=.free):cJ p=0:=by unfold cJ;rw [h]
theorem Cm (h:p.g=.free):cU p=0:=by unfold cU;rw [h]
theorem Cn (h:p.g=.free):dX p=0:=by unfold dX;rw [h]
theorem Uq {n m:Nat}(h:n<=7)(e:m=2*n):m+2<=30:=by grind only
theorem LD (T:Tn w a aN i)(dk:i≠0)(hg:(a.ps i).g=.live .b .B0)(hc:c1<24)(iO:(a.ps c1).g=.free)(hd:c2<24)(wZ:(a.ps c2).g=.free)(wK:c2≠c1)(hm:M5 sl)(hl:jb.bl.length+DS .B1<=9)
  (U:tA w w' i c1 c2 (nF (w.ps i) (d8 (d8 jb w.next) (w.next+1)) (qh .B1) sl) (gm (kz w.next i sl) ⟨wC,qh .L0,[],0⟩) (gm (kz (w.next+1) i sl) ⟨x7,qh .Q0,[],0⟩)):Out a aN w':=by
 have hi:=T.hn.1;have e:=mq hg (T.M.v8 hi hg rfl).2;have fG:c1≠i:=λe=>eD rfl ((e▸iO:(a.ps i).g=.free).symm.trans hg);have wD:c2≠i:=λe=>eD rfl ((e▸wZ:(a.ps i).g=.free).symm.trans hg);exact (.mk (mr a i c1 c2) (PR T.M hi dk hg wD fG wK (yi T.M iO) (yi T.M wZ) hm hl U) (Hz T dk hg hc fG (yi T.M iO) iO hd wD (yi T.M wZ) wZ wK) (λr' h=>(nomatch (congrArg AP.g (gB (a:=gJ a i c1))).symm.trans h))
  (X6 (zT hi hc fG hd wD wK (Ck iO) (Ck wZ) (e▸rfl) rfl)) (X7 (zT hi hc fG hd wD wK (Cm iO) (Cm wZ) (e▸rfl) rfl)) (X8 (zT hi hc fG hd wD wK (Cn iO) (Cn wZ) (e▸rfl) rfl))
  (HA T dk hg wD fG wK (yi T.M iO) (yi T.M wZ) iO wZ))
theorem X9 (h:M3 sl):M5 ((sl.set 3 (some f1)).set 4 (some f2)):=by
 obtain ⟨x,y,z,rfl⟩:=h;exact ⟨x,y,z,f1,f2,rfl⟩
theorem Ur (T:Tn w a aN i)(dk:i≠0)(hg:(a.ps i).g=.live .b .B0):gr w a aN i:=by
 have hi:=T.hn.1;refine (T.M.live hi hg) _ λjb sl hj d0 hl hf hm _=>?_;have hlen:jb.aI.length<300:=by rw [d0];exact mY _
 have HY:a.np<=7:=X5 T.C.np (rT (f:=λj=>dX (a.ps j)) 24 hi (λj Z=>wj)) (by unfold dX;rw [hg]);have xq:w.dG+2<=30:=Uq HY T.M.np.2;have hpp:w.eu<800:=Nat.lt_of_le_of_lt (T.M.np.1▸HY) (by decide);refine qj T hj d0 hf hlen ⟨hm,?_,xq,hpp⟩ λf1 f2 c1 c2 wC x7 q1 q2 q3 hc j4 hd Y0 wK=>?_
 ·refine Ae (XS T.M T.I T.C.cU hi hg) λc d h1 dp h4 h5=>?_
  have hiu:∀c,(w.ps c).st=.ae->c≠i:=λc h e=>T.hu (e▸h);exact ⟨c,d,h1,⟨dp.1,by rw [gq (hiu c dp.2)];exact dp.2⟩,h4,by rw [gq (hiu d h5)];exact h5⟩
 ·have dw:∀c,((bU (aX w i) i jb []).ps c).st=.ae->c≠i:=λc h e=>by replace h:=(sa)▸(e)▸h;cases h
  have fG:=dw c1 j4;have wD:=dw c2 Y0;rw [gq fG] at j4;rw [gq wD] at Y0;exact LD T dk hg hc ((T.M.eQ hc).mp j4) hd ((T.M.eQ hd).mp Y0) wK (X9 hm) hl (LC (T.M.we T.I hi hj hf T.hu hlen (Nat.lt_of_le_of_lt HY (by decide))) hm xq hpp q1 q2 q3 hc j4 fG hd Y0 wD wK)
end
section
theorem HB (T:Tn w a aN i)(dk:i≠0)(hg:(a.ps i).g=.live r pc):gr w a aN i:=by
 induction T.M.fits T.hn.1 hg with
 |rR0=>exact Lq T dk hg .a
 |rE1=>exact qO T dk hg (.inr rfl)
 |Xm=>exact Lq T dk hg .b
 |aaL=>exact qO T dk hg (.inr rfl)
 |Xn=>exact Lr T dk hg (d:=1) (o:=4) rfl .d rfl (.inl ⟨rfl,rfl⟩)
 |Xo=>exact Lr T dk hg (d:=0) (o:=3) rfl .e rfl (.inr ⟨rfl,rfl⟩)
 |aaM=>exact uv T dk hg (pc':=.L2) rfl .f (.inl ⟨rfl,rfl,rfl⟩)
 |aaN=>exact uv T dk hg (pc':=.R0) rfl .g (.inr ⟨rfl,rfl,rfl⟩)
 |aaO=>exact Lq T dk hg .c
 |aaP=>exact qO T dk hg (.inr rfl)
 |Xp=>exact Ea T dk hg (Q4 (.inl rfl)) (.inl rfl) rfl rfl
 |Xq=>exact qO T dk hg (.inl rfl)
 |Xr=>exact Ea T dk hg (Q4 (.inr rfl)) (.inl rfl) rfl rfl
 |Xs=>exact qO T dk hg (.inl rfl)
 |bB0=>exact Ur T dk hg
 |bB1=>exact uv T dk hg (pc':=.B2) rfl .h (.inl ⟨rfl,rfl,rfl⟩)
 |bB2=>exact uv T dk hg (pc':=.B3) rfl .i (.inr ⟨rfl,rfl,rfl⟩)
 |bB3=>exact Eb T dk hg Um
 |bB4=>exact Eb T dk hg Un
 |bX0=>exact qO T dk hg (.inl rfl)
 |cC0=>exact Uj T dk hg
 |cC1=>exact Eb T dk hg XZ
 |cC2=>exact Ea T dk hg XY (.inr rfl) rfl rfl
 |cX0=>exact qO T dk hg (.inl rfl)
theorem LF (T:Tn w a aN i):gr w a aN i:=by
 refine gC (T.M.ready T.hn.1 T.hn.2.1) λh1 h2 Z=>?_;by_cases dk:i=0
 ·subst dk
  obtain ⟨s,hs⟩:=T.M.z;induction s with
  |nil=>exact Uo T hs
  |cN z=>exact Ul T hs
  |«until» p=>exact PK T hs
 ·cases hg:(a.ps i).g with
  |free=>exact absurd hg h1
  |fP r=>exact absurd hg (h2 r)
  |first s=>exact absurd hg (T.M.nz i T.hn.1 dk s)
  |live r pc=>exact HB T dk hg
end
theorem jF (h:x<=j):cD x (j::l)=x::j::l:=if_pos h
theorem iL (h:¬x<=j):cD x (j::l)=j::cD x l:=if_neg h
theorem LG (x y:Int):∀l,cD x (cD y l)=cD y (cD x l):=by
 intro l;induction l with
 |nil=>
  refine (?_:cD x [y]=cD y [x]);by_cases h3:x<=y<;>by_cases h4:y<=x
  ·have:x=y:=by omega
   refine this▸?_;rfl
  ·rw [jF h3,iL h4];rfl
  ·rw [iL h3,jF h4];rfl
  ·omega
 |cons j l ih=>
  by_cases h1:x<=j<;>by_cases h2:y<=j
  ·rw [jF h1,jF h2]
   by_cases h3:x<=y<;>by_cases h4:y<=x
   ·have:x=y:=by omega
    refine this▸?_;rfl
   ·rw [jF h3,iL h4,jF h2]
   ·rw [iL h3,jF h4,jF h1]
   ·omega
  ·rw [jF h1,iL h2,jF h1,iL (by omega),iL h2]
  ·rw [iL h1,jF h2,iL (by omega),iL h1,jF h2]
  ·rw [iL h1,iL h2,iL h1,iL h2,ih]
theorem LH {s:Int}:∀l,0<=cI s l:=by
 intro l;induction l with
 |nil=>
  exact Int.le_refl 0
 |cons x l ih=>
  have:=ih;refine (?_:0<=(if x=s then (1:Int) else 0)+cI s l);split<;>omega
theorem PS:0<cI x l->∃r,b8 l=cD x (b8 r)/\∀s,cI s l=(if x=s then 1 else 0)+cI s r:=by
 induction l with
 |nil=>exact λh=>absurd h (by decide:¬(0:Int)<0)
 |cons y l ih=>
  intro h;by_cases e:y=x
  ·exact e▸⟨l,rfl,λZ=>rfl⟩
  ·have h:0<(if y=x then (1:Int) else 0)+cI x l:=h
   rw [if_neg e,Int.zero_add] at h;exact aQ (ih h) λr h1 h2=>⟨y::r,(congrArg (cD y) h1).trans (LG _ _ _),λs=>(congrArg (λz=>(if y=s then (1:Int) else 0)+z) (h2 s)).trans (Int.add_left_comm _ _ _)⟩
theorem aa6 {a b:Int}(h:1+a=b)(h0:0<=a):0<b:=by omega
theorem aa7 {a:Int}(h:0=1+a)(h0:0<=a):False:=by omega
theorem PT {l:List Int}:∀{l':List Int},(∀s,cI s l=cI s l')->b8 l=b8 l':=by
 induction l with
 |nil=>
  intro l' h;induction l' using List.casesOn with
  |nil=>rfl
  |cons y l=>
   have h1:0=(if y=y then (1:Int) else 0)+cI y l:=h y;rw [if_pos rfl] at h1;exact (aa7 h1 (LH l)).elim
 |cons x l ih=>
  intro l' h;have h1:(if x=x then (1:Int) else 0)+cI x l=cI x l':=h x;rw [if_pos rfl] at h1;exact aQ (PS (aa6 h1 (LH l))) λr h2 h3=>h2▸congrArg (cD x) (ih λs=>Int.add_left_cancel ((h s).trans (h3 s)))
theorem Us (h:∀x,x∈l->x=0\/x=1\/x=7):(l.length:Int)=cI 0 l+cI 1 l+cI 7 l:=by
 induction l with
 |nil=>rfl
 |cons x l ih=>
  have e:cI 0 (x::l)+cI 1 (x::l)+cI 7 (x::l)=cI 0 l+cI 1 l+cI 7 l+1:=by
   refine (?_:(if x=0 then (1:Int) else 0)+cI 0 l+((if x=1 then 1 else 0)+cI 1 l)+((if x=7 then 1 else 0)+cI 7 l)=_);rcases h x (.head _) with rfl|rfl|rfl<;>simp<;>omega
  simp only [e,<- (ih (λy hy=>h y (.tail _ hy)))];rfl
theorem Yb:cI 0 l+cI 1 l+cI 7 l<=l.length:=by
 induction l with
 |nil=>exact Int.le_refl 0
 |cons x l ih=>
  have e:cI 0 (x::l)+cI 1 (x::l)+cI 7 (x::l)<=cI 0 l+cI 1 l+cI 7 l+1:=by
   refine (?_:(if x=0 then (1:Int) else 0)+cI 0 l+((if x=1 then 1 else 0)+cI 1 l)+((if x=7 then 1 else 0)+cI 7 l)<=_);by_cases h0:x=0
   ·subst h0;simp;omega
   ·by_cases h1:x=1
    ·subst h1;simp;omega
    ·rw [if_neg h0,if_neg h1];split<;>omega
  have:((x::l).length:Int)=l.length+1:=rfl;omega
theorem sum_filter:∀n,(∀j,j<n->f j=if p j=true then (if h j=s then 1 else 0) else 0)->fF f n=cI s (((List.range n).filter p).map h):=by
 intro n;induction n with
 |zero=>
  intro _;exact rfl
 |succ n ih=>
  intro hf;simp only [List.range_succ,List.filter_append,List.map_append,mZ,<- ih λj hj=>hf j (Nat.lt_succ_of_lt hj)];refine (?_:fF f n+f n=_);rw [hf n (Nat.lt_succ_self n)];induction hp:p n with
  |false=>rw [if_neg (IG rfl),List.filter_cons_of_neg (by rw [hp];exact IG rfl)];rfl
  |true=>rw [if_pos rfl,List.filter_cons_of_pos hp];show _=_+(_+0);rw [Int.add_zero]
section
theorem Yc {p:AP}:0<=dl s p:=LH _
theorem Q5 (I:Inv a aN):a.fd.length<=aN.length:=by
 have h1:=Us (l:=a.fd.map (·.2)) λx hx=>by
  refine aQ (List.mem_map.mp hx) λy hy dp=>?_;subst dp;exact I.qV y hy
 simp only [List.length_map] at h1;have h2:=Yb (l:=aN);have h3:∀s,cI s (a.fd.map (·.2))<=cI s aN:=λs=>by
  have h4:=I.hV s;have:0<=a.S (dl s):=pD 24 λj Z=>Yc;omega
 have:=h3 0;have:=h3 1;have:=h3 7;omega
theorem Ed (h:k9 pc=true):∃n,need (.live r pc)=some n/\1<=n:=by
 induction pc<;>first|exact ⟨1,rfl,by decide⟩|exact ⟨2,rfl,by decide⟩|exact Bool.noConfusion h
theorem FL (M:Mt w a)(I:Inv a aN)(hi:i<24)(hg:(a.ps i).g=.live r pc):(w.ps i).st=.bB\/∃j r' pc',j<24/\(a.ps j).g=.live r' pc'/\(a.ps i).aS<(a.ps j).aS/\(a.ps j).aS<a.next:=by
 have hP:=((M.ps i hi).at hg).qJ;by_cases hs:(a.ps i).sl=true
 ·rw [if_pos hs] at hP
  refine aQ (Ed (r:=r) hP.w) λm h1 h2=>?_;refine aQ (rU (f:=λj=>if (a.ps j).aJ=some i then 1 else 0) 24 (by rw [show fF _ 24=m from (I.ch i m hi (hg▸h1):qi a i=m)];omega)) λj hj h3=>?_;have hp:(a.ps j).aJ=some i:=Classical.byContradiction λhn=>by rw [if_neg hn] at h3;exact absurd h3 (by decide)
  have iq:j≠0:=λe=>ip rfl (M.zL.symm.trans (e▸hp));have hf:(a.ps j).g≠.free:=λe=>ip rfl ((I.fr j hj e).symm.trans hp);refine (I.aJ j hj iq hf) _ λp e1 _ e3 _ _=>?_;have e:=Option.some.inj (e1.symm.trans hp);have dw:(a.ps i).g≠.first .nil:=λe=>eD rfl (hg.symm.trans e)
  induction Y3:(a.ps j).g with
  |free=>exact absurd Y3 hf
  |first s=>exact absurd Y3 (M.nz j hj iq s)
  |fP r'=>exact absurd Y3 (I.nz i j hi hj hs dw hp r')
  |live r' pc'=>exact .inr ⟨j,r',pc',hj,Y3,e▸e3,I.gH j hj hf⟩
 ·rw [if_neg hs] at hP
  exact .inl hP
theorem lt_toNat {p q n:Int}(h1:p<q)(h2:q<n):(n - q).toNat<(n - p).toNat:=by omega
theorem FN (M:Mt w a)(I:Inv a aN)(n:Nat):∀i r pc,i<24->(a.ps i).g=.live r pc->(a.next - (a.ps i).aS).toNat<=n->∃j,j<24/\(w.ps j).st=.bB:=by
 induction n with
 |zero=>exact λi r pc hi hg hn=>(FL M I hi hg).elim (λh=>⟨i,hi,h⟩) λh=>h.elim λj h=>h.elim λr' h=>h.elim λpc' h=>absurd (Nat.lt_of_lt_of_le (lt_toNat h.2.2.1 h.2.2.2) hn) (Nat.not_lt_zero _)
 |succ n ih=>exact λi r pc hi hg hn=>(FL M I hi hg).elim (λh=>⟨i,hi,h⟩) λh=>h.elim λj h=>h.elim λr' h=>h.elim λpc' h=>ih j r' pc' h.1 h.2.1 (Nat.le_of_lt_succ (Nat.lt_of_lt_of_le (lt_toNat h.2.2.1 h.2.2.2) hn))
theorem nd (M:Mt w a)(I:Inv a aN)(h:(a.ps 0).g≠.first .nil):∃j,j<24/\(w.ps j).st=.bB:=by
 obtain ⟨s,hs⟩:=M.z;have hP:=((M.ps 0 (by decide)).at hs).qJ;by_cases e:(a.ps 0).sl=true
 ·replace hP:=(if_pos e)▸hP
  rcases hP.ch with ⟨h1,_⟩|⟨n,h1,_⟩
  ·rw [hs,h1] at h;exact absurd rfl h
  ·subst h1
   refine (zS M I hs) _ λk r hk qT hr _ _ ky=>?_;induction Y4:(a.ps k).g with
   |free=>rw [Y4] at hr;injection hr
   |first s=>rw [Y4] at hr;injection hr
   |fP r'=>exact absurd Y4 (I.nz 0 k (by decide) hk e h ky r')
   |live r' pc'=>exact FN M I _ k r' pc' hk Y4 (Nat.le_refl _)
 ·rw [if_neg e] at hP
  exact ⟨0,by decide,hP⟩
theorem Ee (hl:∀r pc,Q.g≠.live r pc) (h:fj.uk r q Q):q=0/\uj r=[vY r]:=by
 induction h with
 |z h t=>exact ⟨h,(FK t).2⟩
 |k h=>
  revert hl h
  induction Q.g with
  |live r pc=>exact λhl=>absurd rfl (hl _ _)
  |_=>nofun
def Ut.ZF (w:W)(a:A)(j:Nat)(Z:Prop):Prop:=∀(r:Rl)(g:(a.ps j).g=.fP r)(st:(w.ps j).st=.bc)(s:(w.ps j).status=vY r)(aS:(w.ps j).aS=(a.ps j).aS)(aJ:(w.ps j).aJ=some 0)(o:uj r=[vY r]),Z
def Ut (w a j):=∀Z:Prop,Ut.ZF w a j Z->Z
theorem Ut.mk:Ut.ZF w a j (Ut w a j):=λr g st s aS aJ o _ Z=>Z r g st s aS aJ o
theorem LI (M:Mt w a)(I:Inv a aN)(hl:∀j,j<24->∀r pc,(a.ps j).g≠.live r pc) (hj:j<24) (iq:j≠0) (hf:(a.ps j).g≠.free):Ut w a j:=by
 induction hg:(a.ps j).g with
 |free=>exact absurd hg hf
 |live r pc=>exact absurd hg (hl j hj r pc)
 |first s=>exact absurd hg (M.nz j hj iq s)
 |fP r=>
  have hP:=(M.ps j hj).at hg;refine (I.aJ j hj iq hf) _ λp e1 e2 _ _ e5=>?_;obtain ⟨h1,h2⟩:=Ee (hl p e2) ((hg)▸e5);subst h1;exact (.mk r hg hP.st hP.status hP.aS (hP.aJ.trans e1) h2)
theorem PU (M:Mt w a)(I:Inv a aN)(hd:aN.length<40)(hn:∀j,j<24->(w.ps j).st≠.bB):Done aN w:=by
 have UU:(a.ps 0).g=.first .nil:=Classical.byContradiction λh=>by
  refine aQ (nd M I h) λj h1 h2=>?_;exact hn j h1 h2
 have hl:∀j,j<24->∀r pc,(a.ps j).g≠.live r pc:=λj hj r pc h=>by
  refine aQ (FN M I _ j r pc hj h (Nat.le_refl _)) λj' h1 h2=>?_;exact hn j' h1 h2
 refine (M.r9 UU) _ λjb sl hj d0 hs hf hm=>?_;have DV:∀j,j<24->eB w 0 j=true->Ut w a j:=λj hj h=>by
  refine gC (M.kids I (qH hj h)) λZ h2 h3=>?_;exact LI M I hl hj (λe=>by rw [e,M.zL] at h2;injection h2) h3
 have hS:∀s,a.S (dl s)=cI s ((fR w 0).map λj=>(w.ps j).status):=λs=>sum_filter 24 λj hj=>by
  by_cases h:eB w 0 j=true
  ·rw [if_pos h]
   refine (DV j hj h) _ λr z1 z2 z3 z4 z5 z6=>?_;refine (?_:cI s (zI (a.ps j).g)=_);refine (z1)▸(z3)▸?_;refine (?_:cI s (uj r)=_);simp only [z6];exact Int.add_zero _
  ·rw [if_neg h]
   refine (?_:cI s (zI (a.ps j).g)=_);by_cases iq:j=0
   ·refine iq▸?_;refine (UU)▸?_;rfl
   ·by_cases hf:(a.ps j).g=.free
    ·refine (hf)▸?_;rfl
    ·refine (LI M I hl hj iq hf) _ λr z1 z2 z3 z4 z5 z6=>?_
     refine absurd ?_ h;unfold eB;rw [z2,z5];rfl
 have vX:=Q5 I;have Aj:(fR w 0).length<=24:=by
  have:=List.length_filter_le (eB w 0) (List.range 24);simp only [List.length_range] at this;exact this
 have Yd:(found w jb).map (·.2)=a.fd.map (·.2)++(fR w 0).map λj=>(w.ps j).status:=by
  unfold found;simp only [List.map_append,hs,List.map_map];rfl
 have hfp:(found w jb).map (·.1)=a.fd.map (·.1)++(fR w 0).map λj=>(w.ps j).aS:=by
  unfold found;simp only [List.map_append,hs,List.map_map];rfl
 refine (.mk ⟨jb,hj,PT λs=>?_,?_,?_⟩ (by omega) ⟨?_,((M.ps 0 (by decide)).at UU).pS⟩ (λj hj iq hu=>?_))
 ·simp only [Yd,mZ,<- hS];exact I.hV s
 ·simp only [hfp]
  refine List.nodup_append.mpr ⟨I.qL,?_,λx hx y hy=>?_⟩
  ·refine List.pairwise_map.mpr ?_
   refine List.Pairwise.imp_of_mem (λ{x y} hx hy dw e=>?_) (List.Pairwise.filter _ List.nodup_range:List.Pairwise (·≠·) (fR w 0));obtain ⟨h1,h2⟩:=kx hx;obtain ⟨h3,h4⟩:=kx hy;refine (DV x h1 h2) _ λ_ z1 _ _ z4 _ _=>?_;refine (DV y h3 h4) _ λ_ y1 _ _ y4 _ _=>?_;exact dw (I.gn x y h1 h3 (by rw [z1];exact eD rfl) (by rw [y1];exact eD rfl) (by simp only [<- z4,<- y4];exact e))
  ·refine aQ (List.mem_map.mp hx) λu hu dp=>?_
   subst dp;refine aQ (List.mem_map.mp hy) λj hj dp=>?_;subst dp;obtain ⟨h1,h2⟩:=kx hj;refine (DV j h1 h2) _ λ_ z1 _ _ z4 _ _=>?_;simp only [z4];exact Ne.symm ((I.nD u hu).2 j h1 (by rw [z1];exact eD rfl))
 ·unfold found
  simp only [List.length_append,List.length_map,hs];omega
 ·intro e
  rw [(M.ps 0 (by decide)).st,UU] at e
  revert e
  induction (a.ps 0).sl<;>nofun
 ·refine (LI M I hl hj iq λe=>hu ((M.eQ hj).mpr e)) _ λr z1 z2 z3 z4 z5 z6=>?_
  refine ⟨?_,z2⟩;unfold eB;rw [z2,z5];rfl
end
def Rest.ZF (aN:List Int)(w:W)(u v p:Int)(G:A->Prop)(Z:Prop):Prop:=∀(a:A)(M:Mt w a)(I:Inv a aN)(N:NB a)(cJ:a.S cJ<=u)(cU:a.S cU<=v)(pf:(a.np:Int)+a.S dX<=p)(g:G a),Z
def Rest (aN w u v p G):=∀Z:Prop,Rest.ZF aN w u v p G Z->Z
theorem Rest.mk:Rest.ZF aN w u v p G (Rest aN w u v p G):=λa M I N cJ cU pf g _ Z=>Z a M I N cJ cU pf g
def Nil (a:A):Prop:=(a.ps 0).g=.first .nil
section
theorem LJ {p:AP}:0<=cJ p:=by
 unfold cJ;induction p.g with
 |free=>exact Int.le_refl 0
 |fP r=>show 0<=if _ then (2:Int) else 1;split<;>decide
 |live r pc=>
  have h1:0<=DT pc:=by induction pc<;>decide
  have h2:0<=if k9 pc=true/\p.sl=false then (1:Int) else 0:=by split<;>decide
  exact Int.add_nonneg h1 h2
 |first s=>
  have h1:(0:Int)<=match s with|.cN _=>36|_=>0:=by induction s<;>first|exact Int.le_refl 0|exact (by decide:(0:Int)<=36)
  have h2:0<=if p.sl=true then (0:Int) else 1:=by split<;>decide
  exact Int.add_nonneg h1 h2
theorem tC (R:Rest aN w u v x G)(hv:v<=20)(hx:x<=8)(hd:aN.length<=64)(hG:∀a a',Inv a' aN->G a->(∀bf z,iK bf z a->iK bf z a')->G a') (hn:pQ w i):e8 w i/\∀w',oG w i w'->Rest aN w' (u - 1) v x G:=by
 refine R _ λa M I N h1 h2 h3 h4=>?_;have vX:=Q5 I;have hy0:=LF ((.mk M I N hn (.mk (by omega) (by omega) (by exact Nat.le_trans ‹_› ‹_›))):Tn w a aN i);refine ⟨hy0.pre,λw' hr=>?_⟩;refine (hy0.out w' hr) _ λa' M' I' N' e1 e2 e3 e4=>?_;exact (.mk a' M' I' N' (by omega) (by omega) (by omega) (hG a a' I' h4 e4))
theorem LK (I':Inv a' aN)(h:Nil a)(hl:∀bf z,iK bf z a->iK bf z a'):Nil a':=by
 have:=hl a'.next (-1) (.e h rfl);induction this with
 |t h n=>exact absurd (I'.way _ h).1 (by decide)
 |u h r k hk qT hr hl hs=>
  refine (I'.line k hk qT ((oP hr).trans hl)) _ λq h1 h2=>?_;replace h1:=(h)▸h1;cases h1;exact absurd h2 (Int.ne_of_lt (I'.gH k hk λe=>by rw [e] at hr;injection hr))
 |d h _=>exact h
 |e h _=>exact h
noncomputable def iM (l:Nat):A:=⟨λj=>if j=0 then ⟨.first .nil,false,1,none⟩ else kG,2,l,[],1⟩
theorem qR (h:j≠0):(iM c).ps j=kG:=if_neg h
theorem pI (h:f kG=0):(iM c).S f=f ⟨.first .nil,false,1,none⟩:=by
 unfold A.S;rw [mf (f:=λZ=>0) 24 (i:=0) (by decide) λj hj=>by rw [qR hj];exact h,mT];show (24:Nat)*0+f _ - (0:Int)=_;rw [Int.mul_zero,Int.zero_add,Int.sub_zero];rfl
theorem kH (h:((iM c).ps j).g≠.free):j=0:=Classical.byContradiction λe=>h (by rw [qR e];rfl)
theorem yj:((iM c).ps j).aJ=none:=by
 by_cases e:j=0
 ·subst e;rfl
 ·rw [qR e];rfl
theorem zU (j:Nat):((iM c).ps j).g=.first .nil/\j=0\/((iM c).ps j).g=.free/\j≠0:=by
 by_cases e:j=0
 ·subst e;exact .inl ⟨rfl,rfl⟩
 ·rw [qR e];exact .inr ⟨rfl,e⟩
theorem HC (hl:c<24):Inv (iM c) []:=by
 have hp:∀j i,((iM c).ps j).aJ≠some i:=λj i h=>by rw [yj] at h;injection h
 refine (.mk (λj hj iq h=>absurd (kH h) iq) (λj hj iq h=>absurd (kH h) iq) (λj Z Z=>yj) (λi j Z Z h h' Z=>(kH h).trans (kH h').symm) (λj hj h=>?_) List.nodup_nil (λx hx=>(by contradiction)) (λx hx=>(by contradiction))
  (λj n hj h=>?_) (λi j Z Z Z Z h=>absurd h (hp _ _)) (λj r Z Z h=>?_) (λj Z iq h=>?_) (pI rfl) (pI rfl) (λs=>?_) (λz h=>(by cases h)) hl)
 ·cases kH h;exact (by decide:(1:Int)<2)
 ·rw [r8 λk Z=>hp k j]
  rcases zU (c:=c) j with hz|hz
  ·have e:=hz.1
   rw [e] at h;injection h
  ·replace h:=(hz.1)▸h;cases h;rfl
 ·rcases zU (c:=c) j with ⟨e,_⟩|⟨e,_⟩<;>(rw [e] at h;injection h)
 ·rw [qR iq] at h;contradiction
 ·rw [pI rfl];rfl
theorem LL (S:Start w):Mt w (iM w.last):=by
 refine Qa S.p0 λf1 f2 ja h0=>?_;refine (.mk (λj hj=>?_) ⟨.nil,rfl⟩ (λj hj iq s h=>?_) S.next rfl S.fst S.hF ⟨S.eu,by rw [S.dG];rfl⟩)
 ·by_cases e:j=0
  ·subst e
   rw [h0];exact (.mk rfl rfl rfl (.mk _ rfl rfl rfl) (.mk _ rfl ⟨f1,f2,f2,rfl⟩) rfl)
  ·rw [qR e];exact S.ps j e
 ·rw [qR iq] at h;injection h
theorem Ef (S:Start w):Rest [] w 1 0 1 Nil:=by
 refine (.mk (iM w.last) (LL S) (HC S.last) (λr h=>?_) ?_ ?_ ?_ rfl)
 ·rcases zU (c:=w.last) w.last with hz|hz
  ·obtain ⟨e,_⟩:=hz
   rw [show ((iM w.last).ps (iM w.last).last).g=_ from e] at h;injection h
  ·obtain ⟨e,_⟩:=hz
   rw [show ((iM w.last).ps (iM w.last).last).g=_ from e] at h;injection h
 ·rw [pI rfl];exact Int.le_refl 1
 ·rw [pI rfl];exact Int.le_refl 0
 ·rw [pI rfl];exact Int.le_refl 1
end
noncomputable def jc (p:AP)(z:Int):AP:=⟨.first (.cN z),false,p.aS,p.aJ⟩
section
theorem PV (M:Mt w a)(hg:Nil a)(hj:(w.ps 0).dq=some jb):Mt (oI w jb z) (a.set 0 (jc (a.ps 0) z)):=by
 refine (M.r9 hg) _ λB5 sl k0 d0 hs hf hm=>?_;replace k0:=(hj)▸k0;cases k0;refine ((M.ps 0 (by decide)).at hg) _ λp1 p2 p3 _ _ p6=>?_;have e:oI w jb z=w.aL 0 (qU (gm (w.ps 0) (aO jb [.cN (te z)])))\/(w.ps 0).st=.bB/\oI w jb z=w.aL 0 (gm (w.ps 0) (aO jb [.cN (te z)])):=by
  unfold oI;by_cases e:(w.ps 0).st=.aU
  ·rw [if_pos e];exact .inl rfl
  ·rw [if_neg e]
   refine .inr ⟨?_,rfl⟩;split at p6
   ·exact absurd p6.st e
   ·exact p6
 have SS:PM ((oI w jb z).ps 0) (jc (a.ps 0) z) a.fd:=by
  rcases e with e|hz
  ·rw [e,ah]
   exact (.mk p1 p2 p3 (.mk _ rfl rfl hs) (.mk sl hf hm) rfl)
  ·refine cX hz λh e=>?_
   rw [e,ah];exact (.mk p1 p2 p3 (.mk _ rfl rfl hs) (.mk sl hf hm) h)
 have dw:∀k,k≠0->(oI w jb z).ps k=w.ps k:=λk hk=>by
  rcases e with e|⟨_,e⟩<;>(rw [e];exact aD hk)
 have gQ:∀k,((oI w jb z).ps k).fl=(w.ps k).fl:=λk=>by
  by_cases hk:k=0
  ·subst hk
   rcases e with e|⟨_,e⟩<;>(rw [e,ah];rfl)
  ·rw [dw k hk]
 refine M.chg (λk hk=>?_) ?_ ?_ ?_ ?_ ?_
 ·by_cases e0:k=0
  ·subst e0
   rw [bg];exact .inr ⟨SS,⟨λZ=>rfl,λZ=>⟨_,rfl⟩⟩⟩
  ·rw [dw k e0,bu e0];exact .inl ⟨rfl,rfl,λh=>absurd h e0⟩
 ·rcases e with e|⟨_,e⟩<;>(rw [e];exact M.next)
 ·rcases e with e|⟨_,e⟩<;>(rw [e];exact M.last)
 ·rcases e with e|⟨_,e⟩<;>(rw [e];exact M.fst)
 ·refine M.hF.congr gQ ?_ ?_
  ·rcases e with e|⟨_,e⟩<;>(rw [e];rfl)
  ·rcases e with e|⟨_,e⟩<;>(rw [e];rfl)
 ·rcases e with e|⟨_,e⟩<;>(refine (e)▸?_;exact M.np)
theorem LM (M:Mt w a)(I:Inv a aN)(hg:Nil a)(h0:0<=z)(h3:z<3):Inv (a.set 0 (jc (a.ps 0) z)) (aN++[fO z]++kQ z):=by
 have hg:(a.ps 0).g=.first .nil:=hg
 refine I.w5 (by decide) rfl rfl (by rw [hg];exact eD rfl) (eD rfl) (by rw [hg];rfl) (λj Z Z Z Z h=>Uk hg h) (λZ=>ip rfl) (IG rfl) (λZ=>eD rfl) (by rw [M.zL];exact ip rfl) (λZ=>eD rfl) (λq h=>by replace h:=(hg)▸h;cases h) ?_ ?_ (λs=>?_) (λz' h Z=>by cases h;exact ⟨h0,h3⟩)
 ·unfold ln;refine (hg)▸?_;rfl
 ·unfold kF;refine (hg)▸?_;rfl
 ·rw [mZ,mZ]
  unfold dl;rw [hg];refine (?_:cI s (fO z::kQ z)+cI s aN=0+(cI s aN+cI s [fO z]+cI s (kQ z)));rw [show fO z::kQ z=[fO z]++kQ z from rfl,mZ];simp+arith only
theorem HE (R:Rest aN w (u+1) v x Nil)(h0:0<=z)(h3:z<3)(hj:(w.ps 0).dq=some jb):Rest (aN++[fO z]++kQ z) (oI w jb z) (u+38) (v+4) (x+1) λa=>iK w.next z a/\(a.ps 0).g=.first (.cN z):=by
 refine R _ λa M I N h1 h2 h4 hg=>?_;have hp:=LJ (p:=a.ps 0);refine (.mk _ (PV M hg hj) (LM M I hg h0 h3) (λr=>?_) ?_ ?_ ?_ ⟨.t ?_ M.next.symm,?_⟩)
 ·refine (?_:((a.set 0 (jc (a.ps 0) z)).ps a.last).g≠_)
  by_cases e:a.last=0
  ·rw [e,bg];exact eD rfl
  ·rw [bu e];exact N r
 ·rw [(λf=>ij (by decide):∀f,(a.set 0 (jc (a.ps 0) z)).S f=a.S f+f (jc (a.ps 0) z) - f (a.ps 0)),show cJ (jc (a.ps 0) z)=37 from rfl];grind only
 ·simp only [(λf=>ij (by decide):∀f,(a.set 0 (jc (a.ps 0) z)).S f=a.S f+f (jc (a.ps 0) z) - f (a.ps 0)),show cU (jc (a.ps 0) z)=4 from rfl,show cU (a.ps 0)=0 by unfold cU;rw [(hg:(a.ps 0).g=.first .nil)]];grind only
 ·simp only [(λf=>ij (by decide):∀f,(a.set 0 (jc (a.ps 0) z)).S f=a.S f+f (jc (a.ps 0) z) - f (a.ps 0)),show dX (jc (a.ps 0) z)=1 from rfl,show dX (a.ps 0)=0 by unfold dX;rw [(hg:(a.ps 0).g=.first .nil)]]
  refine (?_:(a.np:Int)+_<=_);grind only
 ·rw [bg];rfl
 ·rw [bg];rfl
end
def gD (w:W)(c:Nat)(sl:ON)(h:Nat->Int)(sl':ON):W:=gR (d6 w 0 c sl) c h sl'
def LN (n:Int)(sl sl':ON):Pr:=qe (mS (kz n 0 sl) (some sl')) 7
section
theorem LO:(gD w c sl h sl').ps c=mS (kz w.next 0 sl) (some sl'):=by
 delta gD gR d6;rw [ah];exact congrArg (mS · (some sl')) ah
theorem zV (hk:k≠c):(gD w c sl h sl').ps k=w.ps k:=by
 delta gD gR d6;rw [aD hk];exact (aD hk).trans (by rw [bE.1])
theorem Co (M:Mt w a)(I:Inv a aN)(hg:Nil a)(hk:k<24):bL (uh (.child (w.ps 0).aS)) (w.ps k)=false:=by
 induction e:bL (uh (.child (w.ps 0).aS)) (w.ps k) with
 |false=>rfl
 |true=>
  refine gC (M.YU hk e) λh1 h2 h3=>?_;have h4:k=0:=I.gn k 0 hk (by decide) h2 (by rw [(hg:(a.ps 0).g=.first .nil)];nofun) (h1.trans ((M.ps 0 (by decide)).aS (by rw [(hg:(a.ps 0).g=.first .nil)];nofun)));subst h4;unfold eZ at h3;rw [(hg:(a.ps 0).g=.first .nil)] at h3;exact absurd ((Bool.and_eq_true_iff.mp h3).2) (IG rfl)
def ik.ZF (w w':W)(c:Nat)(P:Pr)(Z:Prop):Prop:=∀(eV:w'.ps c=P)(ne:∀k,k<24->k≠c->w'.ps k=w.ps k) (next:w'.next=w.next+1) (last:w'.last=w.last) (fst:w.fst=some 0->w'.fst=some 0) (np:w'.eu=w.eu/\w'.dG=w.dG) (hF:fM w'),Z
def ik (w w' c P):=∀Z:Prop,ik.ZF w w' c P Z->Z
theorem ik.mk:ik.ZF w w' c P (ik w w' c P):=λeV ne next last fst np hF _ Z=>Z eV ne next last fst np hF
def ik.eV (Z:ik w w' c P):=Z _ λeV ne next last fst np hF=>eV
def ik.ne (Z:ik w w' c P):=Z _ λeV ne next last fst np hF=>ne
def ik.next (Z:ik w w' c P):=Z _ λeV ne next last fst np hF=>next
def ik.last (Z:ik w w' c P):=Z _ λeV ne next last fst np hF=>last
def ik.fst (Z:ik w w' c P):=Z _ λeV ne next last fst np hF=>fst
def ik.np (Z:ik w w' c P):=Z _ λeV ne next last fst np hF=>np
def ik.hF (Z:ik w w' c P):=Z _ λeV ne next last fst np hF=>hF
theorem LQ (M:Mt w a)(I:Inv a aN)(hg:Nil a)(hc:c<24)(iO:(a.ps c).g=.free)(ir:c≠0)(hF:fM (gD w c sl h sl')):ik w (fh (gD w c sl h sl') c 7) c (LN w.next sl sl'):=by
 have DV:fR (gD w c sl h sl') c=[]:=by
  refine List.filter_eq_nil_iff.mpr λj hj Aa=>?_;by_cases e:j=c
  ·subst e
   unfold eB at Aa;rw [LO,show (mS (kz w.next 0 sl) (some sl')).aJ=some 0 from rfl,decide_eq_false (λh=>ir (Option.some.inj h).symm),Bool.and_false] at Aa;injection Aa
  ·unfold eB at Aa
   rw [zV e] at Aa;refine gC (M.kids I (qH (List.mem_range.mp hj) Aa)) λh1 h2 Z=>?_;exact I.DU hc (by rw [iO];rfl) h1 h2
 have e0:fh (gD w c sl h sl') c 7=fL ((gD w c sl h sl').aL c (LN w.next sl sl')) (uh (.child (w.ps 0).aS)) 24:=by
  delta fh eH;refine (DV)▸(show cb (gD w c sl h sl') []=gD w c sl h sl' from rfl)▸(LO)▸?_;refine (?_:fL _ (uh (.child (((gD w c sl h sl').aL c _).ps 0).aS)) 24=_);rw [aD (Ne.symm ir),zV (Ne.symm ir)];rfl
 have QV:fM (fh (gD w c sl h sl') c 7):=hF.congr (λq=>FG (w:=gD w c sl h sl') (i:=c) (z:=7) (q:=q)) FH (by refine (e0)▸?_;rfl);rw [e0] at QV ⊢;refine (.mk ?_ (λk hk hkc=>?_) ?_ ?_ (λh=>?_) ?_ QV)
 ·refine (?_:(if c<24/\bL _ (((gD w c sl h sl').aL c _).ps c)=true then qU (((gD w c sl h sl').aL c _).ps c) else ((gD w c sl h sl').aL c _).ps c)=_)
  refine (ah)▸(ti (P:=LN w.next sl sl') nofun)▸?_;exact if_neg (λh=>by injection h.2)
 ·refine (?_:(if k<24/\bL _ (((gD w c sl h sl').aL c _).ps k)=true then qU (((gD w c sl h sl').aL c _).ps k) else ((gD w c sl h sl').aL c _).ps k)=_)
  rw [aD hkc,zV hkc,Co M I hg hk];exact if_neg (λh=>by injection h.2)
 ·exact bE.2.2.2.1
 ·exact mn
 ·refine Eq.trans (bE.2.2.1) ?_
  refine (?_:some (w.fst.getD c)=_);rw [h];rfl
 ·exact ⟨bE.2.2.2.2.2,bE.2.2.2.2.1⟩
theorem LR (M:Mt w a)(I:Inv a aN)(hg:Nil a)(hc:c<24)(iO:(a.ps c).g=.free)(ir:c≠0):Inv (a.spawn 0 c (a.ps 0) (.fP .f7)) (aN++[7]):=by
 have hg:(a.ps 0).g=.first .nil:=hg
 refine I.Lc (by decide) hc ir ir iO rfl rfl (by rw [hg];nofun) (by rw [hg];nofun) rfl (λZ=>hg) (λZ Z Z Z Z h=>h) (by rw [M.zL];exact ip rfl) (by refine (hg)▸?_;exact λZ=>ip rfl) (eD rfl) (λn h=>(Option.some.inj h).symm) (.z rfl rfl) (by refine (hg)▸?_;exact λZ=>eD rfl) (λZ=>eD rfl) (by refine (hg)▸?_;exact λZ=>eD rfl)
  (λZ q h=>by replace h:=(hg)▸h;cases h) (λZ Z Z h=>TV h) (Int.add_zero _) (Int.add_zero _) (λs=>?_) (by refine (hg)▸?_;exact λZ=>DQ rfl)
 simp only [mZ];refine (?_:dl s (a.ps 0)+cI s [7]+cI s aN=_);simp+arith only
theorem HF (R:Rest aN w u v x Nil)(hc:c<24)(j4:(w.ps c).st=.ae)(hF:fM (gD w c sl h sl')):Rest (aN++[7]) (fh (gD w c sl h sl') c 7) (u+1) (v+1) x Nil:=by
 refine R _ λa M I N h1 h2 h3 hg=>?_;have iO:=(M.eQ hc).mp j4;have ir:c≠0:=λe=>by rw [e,(hg:(a.ps 0).g=.first .nil)] at iO;injection iO
 have U:=LQ M I hg hc iO ir hF;have hS:∀f:AP->Int,f (a.ps c)=0->(a.spawn 0 c (a.ps 0) (.fP .f7)).S f=a.S f+f ⟨.fP .f7,false,a.next,some 0⟩:=λf h=>by
  rw [lb (by decide) hc ir,h];simp+arith only
 refine (.mk (a.spawn 0 c (a.ps 0) (.fP .f7)) (M.chg (λk hk=>?_) (U.next.trans (congrArg (·+1) M.next)) (U.last.trans M.last) (U.fst M.fst) U.hF ⟨U.np.1.trans M.np.1,U.np.2.trans M.np.2⟩) (LR M I hg hc iO ir) (λr=>?_) ?_ ?_ ?_ ?_)
 ·by_cases e:k=c
  ·subst e
   rw [U.eV,mX ir];exact .inr ⟨(.mk rfl rfl M.next rfl rfl),⟨λ⟨s,h⟩=>(by injection h),λh=>absurd h ir⟩⟩
  ·by_cases e0:k=0
   ·subst e0
    rw [U.ne 0 hk e,gB];exact .inl ⟨rfl,rfl,λZ=>rfl⟩
   ·rw [U.ne k hk e,gp e0 e]
    exact .inl ⟨rfl,rfl,λZ=>rfl⟩
 ·refine (?_:((a.spawn 0 c (a.ps 0) (.fP .f7)).ps a.last).g≠_)
  by_cases e:a.last=c
  ·rw [e,mX ir];exact eD rfl
  ·by_cases e0:a.last=0
   ·rw [e0,gB,(hg:(a.ps 0).g=.first .nil)];exact eD rfl
   ·rw [gp e0 e];exact N r
 ·simp only [hS cJ (by unfold cJ;rw [iO]),show cJ ⟨.fP .f7,false,a.next,some 0⟩=1 by unfold cJ;exact if_neg (λh=>h.2 rfl)];omega
 ·simp only [hS cU (by unfold cU;rw [iO]),show cU ⟨.fP .f7,false,a.next,some 0⟩=1 from rfl];omega
 ·simp only [hS dX (by unfold dX;rw [iO]),show dX ⟨.fP .f7,false,a.next,some 0⟩=0 from rfl]
  refine (?_:(a.np:Int)+_<=_);omega
 ·refine (?_:((a.spawn 0 c (a.ps 0) (.fP .f7)).ps 0).g=_)
  rw [gB];exact (hg:(a.ps 0).g=.first .nil)
end
def LS (t:Nat)(aN:List Int)(w:W):Prop:=Rest aN w (37*t+1) (5*t) (t+1) Nil/\aN.length<=4*t
def LU (t:Nat)(aN:List Int)(w:W):Prop:=t<4/\Rest aN w (37*t+37) (5*t+4) (t+2) Nil/\aN.length<=4*t+3
def aa8 (k:Nat)(aN:List Int)(w:W):Prop:=Rest aN w (149 - k) 20 5 (λZ=>True)/\aN.length<=16
def Cq (t:Nat)(aN:List Int)(bf z:Int)(k:Nat)(w:W):Prop:=Rest aN w (37*t+38 - k) (5*t+4) (t+2) λa=>iK bf z a/\(1<=k\/(a.ps 0).g=.first (.cN z))
section
theorem Rest.imp (R:Rest aN w u v x G)(hu:u<=u')(hv:v<=v')(hx:x<=x')(hG:∀a,G a->G' a):Rest aN w u' v' x' G':=by
 refine R _ λa M I N h1 h2 h3 h4=>?_;exact (.mk a M I N (Int.le_trans h1 hu) (Int.le_trans h2 hv) (Int.le_trans h3 hx) (hG a h4))
theorem Rest.nn (R:Rest aN w u v x G):0<=u:=by
 refine R _ λa _ _ _ h1 _ _ _=>?_;exact Int.le_trans (pD 24 λj Z=>LJ) h1
theorem Rest.aa9 (R:Rest aN w u v x Nil):∃jb,(w.ps 0).dq=some jb/\jb.aI=[]:=by
 refine R _ λa M _ _ _ _ _ h4=>?_;refine (M.r9 h4) _ λjb sl hj d0 _ _ _=>?_;exact ⟨jb,hj,d0⟩
theorem LV:(kQ z).length<=2:=by
 unfold kQ;split
 ·decide
 ·split<;>decide
theorem PW (hk:k<150)(ht:t<4)(hd:aN.length<=4*t+3)(R:Cq t aN bf z k w):∃jb,(w.ps 0).dq=some jb/\(jb.aI=[]\/(jb.aI≠[]/\(∃i,i<24/\(w.ps i).st=.bB)/\∀i,pQ w i->e8 w i/\∀w',oG w i w'->Cq t aN bf z (k+1) w')):=by
 have R':Rest aN w (37*t+38 - k) (5*t+4) (t+2) (iK bf z):=Rest.imp R (Int.le_refl _) (Int.le_refl _) (Int.le_refl _) λa h=>h.1;have go:∀i,pQ w i->e8 w i/\∀w',oG w i w'->Cq t aN bf z (k+1) w':=λi hi=>by
  refine cX (tC R' (by omega) (by omega) (by omega) (λa a' Z h hl=>hl _ _ h) hi) λh1 h2=>?_;exact ⟨h1,λw' hw=>(h2 w' hw).imp (by grind only) (Int.le_refl _) (Int.le_refl _) λa h=>⟨h,.inl (Nat.succ_le_succ (Nat.zero_le k))⟩⟩
 refine R _ λa M I _ _ _ _ _=>?_;obtain ⟨s,hs⟩:=M.z;refine (M.r9 hs) _ λjb sl hj d0 _ _ _=>?_;refine ⟨jb,hj,?_⟩;induction s with
 |nil=>exact .inl d0
 |cN z=>exact .inr ⟨by rw [d0];exact wX rfl,nd M I (by rw [hs];exact DQ rfl),go⟩
 |«until» p=>exact .inr ⟨by rw [d0];exact wX rfl,nd M I (by rw [hs];exact DQ rfl),go⟩
theorem LW (h0:0<=z)(ht:t<4)(hd:aN.length<=4*t+3)(R:Cq t aN bf z k w)(hj:(w.ps 0).dq=some jb)(hs:jb.aI=[]):(bf,fO z)∈jb.bl/\LU t aN w:=by
 refine R _ λa M I N h1 h2 h3 q1=>?_;obtain ⟨hL,hk⟩:=q1;obtain ⟨s,hg⟩:=M.z;refine (M.r9 hg) _ λB5 sl k0 d0 hss _ _=>?_;replace k0:=(hj)▸k0;cases k0;rw [hs] at d0;induction s with
 |cN z=>injection d0
 |«until» p=>injection d0
 |nil=>
  have hk:1<=k:=by
   rcases hk with h|h
   ·exact h
   ·replace h:=(hg)▸h;cases h
  refine ⟨?_,ht,(.mk a M I N (by grind only) h2 h3 hg),hd⟩;induction hL with
  |t h _=>replace h:=(hg)▸h;cases h
  |u h=>replace h:=(hg)▸h;cases h
  |d _ h=>refine (hss)▸?_;exact h
  |e _ h=>subst h;exact absurd h0 (by decide)
theorem HG (L:LU t aN w):∃sl,(w.ps 0).st≠.ae/\x8 w/\(w.ps 0).fl=some sl/\fM w/\(∀c,c<24->(w.ps c).st≠.ae->(w.ps c).aS<w.next)/\oB w/\w.fst=some 0/\
  ∀c,c<24->(w.ps c).st=.ae->fM (d6 w 0 c sl)/\∀h sl',fM (gR (d6 w 0 c sl) c h sl')->LS (t+1) (aN++[7]) (fh (gR (d6 w 0 c sl) c h sl') c 7):=by
 refine gC L λht R hd=>?_;have R':=R;refine R' _ λa M I N h1 h2 h3 hg=>?_;have Cv:(a.ps 0).g=.first .nil:=hg
 refine (M.r9 hg) _ λjb sl hj d0 _ hf hm=>?_;have hu:(w.ps 0).st≠.ae:=λe=>by
  have:=(M.eQ (by decide)).mp e;rw [Cv] at this;injection this
 have hS:0<=a.S dX:=pD 24 λj Z=>wj;have Y:=M.we I (i:=0) (by decide) hj hf hu (by rw [d0];exact (by decide:0<300)) (by omega);refine ⟨sl,hu,Q3 M I (by grind only),hf,M.hF,λc hc j4=>?_,(.mk Y.hc.eu Y.hc.dG),M.fst,λc hc j4=>⟨M.hF.fork (by decide) hc ?_ hf (D9 hm),λh sl' hF=>⟨?_,?_⟩⟩⟩
 ·by_cases e:c=0
  ·subst e
   have:=Y.eI 0 hc;rw [oH] at this;exact this nofun
  ·have:=Y.eI c hc
   rw [show (aX w 0).ps c=w.ps c from aD e] at this;exact this j4
 ·rw [show w.ps c=kP from (M.ps c hc).at ((M.eQ hc).mp j4)];rfl
 ·refine (HF R hc j4 hF).imp ?_ ?_ ?_ λZ h=>h
  ·grind only
  ·grind only
  ·omega
 ·rw [List.length_append]
  refine (?_:aN.length+1<=_);omega
theorem LX:cT LS LU aa8:=by
 refine (.mk (λw S=>⟨Ef S,Nat.le_refl 0⟩) (λt aN w z ht hQ h0 h3=>?_) (λt aN w hL i hi=>?_) (λt aN w Z hL=>HG hL) (λt aN w ht hL=>?_) (λt aN w ht hQ=>?_) (λk aN w hk hF i hi=>?_) (λk aN w hk hF UO=>?_))
 ·refine aQ hQ.1.aa9 λjb hj hs=>?_
  have hd:(aN++[fO z]++kQ z).length<=4*t+3:=by
   have:=LV (z:=z);have:=hQ.2;simp only [List.length_append,List.length_append];refine (?_:aN.length+1+_<=_);omega
  refine ⟨jb,hj,hs,Cq t (aN++[fO z]++kQ z) w.next z,?_,λk w hk hI=>PW hk ht hd hI,λw hI=>?_,λk w' B5 hk hI k0 qm=>LW h0 ht hd hI k0 qm⟩
  ·exact (HE (u:=37*t) (hQ.1.imp (by omega) (Int.le_refl _) (Int.le_refl _) λZ h=>h) h0 h3 hj).imp (by omega) (by omega) (by omega) λa h=>⟨h.1,.inr h.2⟩
  ·have:=Rest.nn hI
   omega
 ·refine gC hL λht R hd=>?_
  refine cX (tC R (by omega) (by omega) (by omega) (λa a' I h hl=>LK I h hl) hi) λh1 h2=>?_;exact ⟨h1,λw' hw=>⟨ht,(h2 w' hw).imp (by omega) (Int.le_refl _) (Int.le_refl _) λZ h=>h,hd⟩⟩
 ·refine gC hL λZ R hd=>?_
  exact ⟨R.imp (by omega) (by omega) (by omega) λZ h=>h,by omega⟩
 ·exact ⟨hQ.1.imp (by omega) (by omega) (by omega) λZ Z=>trivial,by have:=hQ.2;omega⟩
 ·refine cX (tC hF.1 (Int.le_refl _) (by omega) (by have:=hF.2;omega) (λZ Z Z Z Z=>trivial) hi) λh1 h2=>?_
  exact ⟨h1,λw' hw=>⟨(h2 w' hw).imp (by omega) (Int.le_refl _) (Int.le_refl _) λZ h=>h,hF.2⟩⟩
 ·rcases UO with hn|rfl
  ·refine hF.1 _ λa M I _ _ _ _ _=>?_
   exact PU M I (by have:=hF.2;omega) hn
  ·have:=Rest.nn hF.1
   omega
end
theorem LY (hs:H s=some (.ro ns))(hl:ns.length<900):(aj 13).fn .nP [.ref s] H (λv Z=>v=.bool true):=TU LX hs hl
end
section
open PySem PySem.W PySem.Calls PyProof.Rows PySem.Spec
theorem HH:Cl ⟨.builtin "claim.caller" {},none,none,[],none⟩:=⟨by decide,λx hx=>by contradiction⟩
theorem zW {prog:Program}{w:World}{t:Sem PySem.Fin}{s:Shared}{R:Result->Shared->Prop}(aba:s.asleep)
  (h:ey (model prog w) callerA t (λfin s'=>∃f,fin=.done f/\(R (.ok f) s'/\leftWithCleanup s'.gens=false)) (λe s'=>R (.error e) s'/\leftWithCleanup s'.gens=false) s):
  ∃n r s' CL,runN (denote table) prog w n s ⟨t,.builtin "claim.caller" {},default,[]⟩=.halted (outcomeOf r) s'/\
   schedN (denote table) prog w n (.single s ⟨t,.builtin "claim.caller" {},default,[]⟩)=.halted (outcomeOf r) s'/\s'.forget=CL.forget/\R r CL:=by
 have hw:Sem.wp (model prog w) ⟨.builtin "claim.caller" {},none,none,[],none⟩ t (Sem.finPost (model prog w) ⟨.builtin "claim.caller" {},none,none,[],none⟩ λr s'=>R r s'/\leftWithCleanup s'.gens=false)
   (λe Z s'=>R (.error e) s'/\leftWithCleanup s'.gens=false) default s:=by
  refine Sem.wp_mono _ _ t (λfin p' s' h'=>?_) (λZ Z Z h'=>h') default s (h _ default caller_in HH);obtain ⟨f,rfl,hf⟩:=h';exact hf
 refine uy (wp_halts_full (M:=model prog w) (R:=R) aba hw) λn r ba kK hs hn Yd hR=>?_;exact ⟨n,r,kK,ba,hn,hs,Yd,hR⟩
def pT.ZF (c:ClaimW)(s:Shared)(kept:Heap->Prop)(args:List WData)(vs:List Value)(ba:Shared)(r:Result)(s':Shared)(Z:Prop):Prop:=∀(e:c.Ends s args vs ba r s')(os:s'.os=s.os)(bare:AllBare s'.gens)(k:kept s'.heap),Z
def pT (c s kept args vs ba r s'):=∀Z:Prop,pT.ZF c s kept args vs ba r s' Z->Z
theorem pT.mk {c s kept args vs ba r s'}:pT.ZF c s kept args vs ba r s' (pT c s kept args vs ba r s'):=λe os bare k _ Z=>Z e os bare k
def pT.e {c s kept args vs ba r s'}(Z:pT c s kept args vs ba r s'):=Z _ λe os bare k=>e
def pT.os {c s kept args vs ba r s'}(Z:pT c s kept args vs ba r s'):=Z _ λe os bare k=>os
def pT.bare {c s kept args vs ba r s'}(Z:pT c s kept args vs ba r s'):=Z _ λe os bare k=>bare
def pT.k {c s kept args vs ba r s'}(Z:pT c s kept args vs ba r s'):=Z _ λe os bare k=>k
def tX.ZF (c:ClaimW)(tree:List Value->Sem PySem.Fin)(w:World)(s:Shared)(kept:Heap->Prop)(args:List WData)(ord:List DictEntry->List DictEntry)(Z:Prop):Prop:=∀(vs:List Value)(ba:Shared)(jM:layAllW c.records (classAt s.heap) w.params ord args s=some (vs,ba))(h:ey (model c.prog w) callerA (tree vs) (λfin s'=>∃f,fin=.done f/\pT c s kept args vs ba (.ok f) s') (λe s'=>pT c s kept args vs ba (.error e) s') ba),Z
def tX (c tree w s kept args ord):=∀Z:Prop,tX.ZF c tree w s kept args ord Z->Z
theorem tX.mk {c tree w s kept args ord}:tX.ZF c tree w s kept args ord (tX c tree w s kept args ord):=λvs ba jM h _ Z=>Z vs ba jM h
def HI.ZF (c:ClaimW)(tree:List Value->Sem PySem.Fin)(w:World)(s:Shared)(kept:Heap->Prop)(args:List WData)(ord:List DictEntry->List DictEntry)(Z:Prop):Prop:=∀(vs:List Value)(ba:Shared)(jM:layAllW c.records (classAt s.heap) w.params ord args s=some (vs,ba))(k:Nat)(r:Result)(s':Shared)(hs:schedN (denote table) c.prog w k (.single ba ⟨tree vs,.builtin "claim.caller" {},default,[]⟩)=.halted (outcomeOf r) s')(e:c.Ends s args vs ba r s')(hk:kept s'.heap)(hl:s'.heap.life.seen=s.heap.life.seen)(ho:s'.rest=s.rest),Z
def HI (c tree w s kept args ord):=∀Z:Prop,HI.ZF c tree w s kept args ord Z->Z
theorem HI.mk {c tree w s kept args ord}:HI.ZF c tree w s kept args ord (HI c tree w s kept args ord):=λvs ba jM k r s' hs e hk hl ho _ Z=>Z vs ba jM k r s' hs e hk hl ho
theorem tX.ends {c:ClaimW}{tree:List Value->Sem PySem.Fin}{w:World}{s:Shared}{kept:Heap->Prop}{args:List WData}{ord:List DictEntry->List DictEntry}(hz:s.asleep)(h:tX c tree w s kept args ord):HI c tree w s kept args ord:=by
 refine h _ λvs ba jM Ye=>?_;have O6:=layAllW_rest _ _ _ jM;refine uy (zW (R:=pT c s kept args vs ba) (Shared.asleep_of_life O6.2.2.2 hz) (bN Ye (λfin s' z=>z.imp λf h=>⟨h.1,h.2,leftWithCleanup_false_of_bare h.2.bare⟩) λe s' z=>⟨z,leftWithCleanup_false_of_bare z.bare⟩)) λk r s' CL abb Uu Yd R=>?_;have F:=Shared.forget_eq Yd;exact (.mk vs ba jM k r s' Uu (R.e.congr F.1) (F.1▸R.k) (congrArg _ ((runN_life _ _ _ abb).trans O6.2.2.2)) (Shared.rest_eq (F.2.2.2.1.trans R.os)))
theorem HJ {c:ClaimW}{tree:List Value->Sem PySem.Fin}{w:World}{s:Shared}{free:Addr->Prop}{gens:Prop}{kept:Heap->Prop}(hz:s.asleep)(Cr:s.gens=#[])
  (Yg:∀args,c.pre args=true->WData.layableAll args=true->∀ord:List DictEntry->List DictEntry,(∀l,(ord l).Perm l)->tX c tree w s kept args ord):
  c.CallFrom (λvs=>⟨tree vs,.builtin "claim.caller" {},default,[]⟩) w free gens kept s:=by
 intro args zD HK ord PX;refine ((Yg args zD HK ord PX).ends hz) _ λvs ba jM k r s' hs e hk hl ho=>?_;refine ⟨vs,ba,jM,k,_,s',hs,?_,λZ i x hx=>(by rw [Cr] at hx;simp at hx),hk,hl,ho⟩;refine Or.imp ?_ ?_ e
 ·exact Exists.imp λv h=>⟨h.1▸rfl,h.2.1,h.2.2.1,h.2.2.2.1,λb o y Z=>h.2.2.2.2.1 b o y,h.2.2.2.2.2⟩
 ·exact Exists.imp λe=>Exists.imp λob=>Exists.imp λcls h=>⟨h.1▸rfl,h.2.1,h.2.2.1,h.2.2.2.1,h.2.2.2.2.1,λb o y Z=>h.2.2.2.2.2 b o y⟩
abbrev Q6 (q:Program)(loose:List Str)(XP:OV->Heap->Prop)(YP:World->Heap->Prop)(r:RowW)(d:DefRec)(Uv:List (Str×PySem.Expr)):Prop:=
 ∀(w:World)(se ba:Shared)(mg mb:OV),Ground q loose r.records XP w se mg mb ba.heap->YP w ba.heap->∀(a:Addr)(o:Obj)(pm cd doc dV kV:Value),ba.heap.get? a=some o->
  o.data=.func {docDef d.name d.params d.body d.scope pm cd doc with defaults:=dV,kwdefaults:=kV}->ba.heap.CodeRec cd d.name->Dflts mg ba.heap d.params Uv dV kV->mg d.name=some (.ref a)->ba.gens=#[]->
  ∀(args:List WData)(vals:List Value)(as:List Addr),r.claim.pre args=true->WData.layableAll args=true->ReadsAllW r.records (classAt se.heap) ba.heap vals args as->WellAll w.params ba.heap vals args->(∀a∈as,(a==sysModules)=false)->
   ey (model r.prog w) callerA (PySem.call (.ref a) vals) (λv s'=>GoodWG r.claim (classAt se.heap) (ExcName.means se.heap) args ba (.ok (.ret v)) s')
    (λe s'=>GoodWG r.claim (classAt se.heap) (ExcName.means se.heap) args ba (.error e) s') ba
theorem PySem.W.holds_open {r:OpenRow}{q:Program}{loose:List Str}{Xt:Shared->Bool}{XP:OV->Heap->Prop}{α:Type}{Yf:Shared->α}{Ya:World->α}{YP:World->Heap->Prop}{d:DefRec}{Uv:List (Str×PySem.Expr)}{N:Nat}
  (left:LeftO r.prog q loose Xt Yf Ya N)(hY:∀w s,Yf s=Ya w->YP w s.heap) (hYk:∀w h h',YP w h->(∀b o,h.get? b=some o->h'.get? b=some o)->YP w h')
  (hX:∀s,Xt s=true->XP (s.heap.nsMap mainGlobals) s.heap) (hXk:∀mg h h',XP mg h->(∀b o,h.get? b=some o->h'.get? b=some o)->XP mg h')
  (Uw:defOf q r.name=some (d,Uv)) (hp:r.prog.theDef r.name=some (d.params,d.body,d.scope)) (hk:kwWritten? d.params.kwonlyargs d.params.kw_defaults=some Uv) (hRf:∀s,Xt s=true->RecFacts r.records s.heap) (hwr:(!r.writes||r.records.isEmpty)=true)
  (k1:r.wellSaid=true) (ok:(chainsOk q&&opensWell r.prog&&(frees r.toRowW&&r.within.isEmpty))=true) (hb:r.prog.bare) (hw:r.toRowW.promised)
  (call:Q6 q loose XP YP r.toRowW d Uv):r.Holds:=by
 obtain ⟨ok,k5⟩:=Bool.and_eq_true_iff.mp ok;obtain ⟨DV,o1⟩:=Bool.and_eq_true_iff.mp ok;obtain ⟨k5,k6⟩:=Bool.and_eq_true_iff.mp k5;refine HZ (frees_parts k5) λQ7 hu ha hap hm=>?_;have hi:=ident_freeW hu ha hap;have hwi:r.toRowW.claim.within=[]:=List.isEmpty_iff.mp k6;refine ⟨k1,hw,⟨hb,o1,by show r.makers.map _=[];refine (hm)▸?_;rfl⟩,hw.witness,λw=>⟨(left.behind hX DV w).1,λs' qm=>?_⟩⟩;refine tE ((left.behind (XP:=λmg h=>XP mg h/\RecFacts r.records h) (λs hs=>⟨hX s hs,hRf s hs⟩) DV w).2 s' qm) λse hf UU FX=>?_;refine tE FX λs hT hz FX=>?_;refine tD FX λCr hg HL y=>?_;have G0:Ground q loose [] XP w s (s.heap.nsMap mainGlobals) (s.heap.nsMap builtinsNs) s.heap:=⟨HL.T,HL.B,HL.D,HL.TE,HL.TD,HL.W,HL.X.1,HL.cls,HL.has,HL.apart,HL.once,HL.K⟩;have RF:=HL.X.2;have Q8:s.gens=#[]:=Array.eq_empty_of_size_eq_zero (beq_iff_eq.mp Cr);have G:Ground q loose r.records XP w s _ _ s.heap:=RF.ground G0;refine ⟨se,hf,UU,s,hT,λn hn=>?_,RF.1,RF.2.1,HJ (c:=r.toRowW.claim) hz Q8 λargs zD HK ord PX=>?_⟩
 ·obtain rfl:n=r.name:=by split at hn<;>simp_all
  exact pinned_of_view hg G0 Uw hp hk
 ·obtain ⟨⟨vs,ba⟩,jM⟩:=Option.isSome_iff_exists.mp (layAllW_isSome (P:=w.params) (ord:=ord) G.has args r.args s (pre_splitW zD).1)
  have keeps:=layAllW_keeps _ _ _ jM;have O6:=layAllW_rest _ _ _ jM;refine tE (reads_layAllW PX _ _ _ jM HK ba.heap (λZ Z e=>e)) λas Y5 hin bP=>?_;have L:Laid r.records w s ba args vs as:=⟨⟨ord,PX,jM⟩,Y5,hin,bP,keeps,O6.1.trans Q8,O6.2.2.1⟩;have Ux:=G.keeps hXk keeps;refine U1 (Ux.fn Uw) λa o pm cd doc dV kV h1 h2 h3 h4 h5=>?_;have run:=call w s ba _ _ Ux (hYk _ _ _ (hY w s y) keeps) a o pm cd doc dV kV h2 h3 h4 h5 (defOf_name Uw▸h1) L.gens args vs as zD HK L.reads L.well (L.low G.low);refine (.mk vs ba jM ?_);show ey _ _ (do match <- nsGet mainNs r.name with
   |some f=>do ret (<- PySem.call f vs)
   |none=>unsupported "claim.caller:no-such-global") _ _ _
  refine aE (wpAny_nsGet Ux.T.g ?_);refine (h1)▸?_;refine dg (bN run (λv s' g=>cK ⟨_,rfl,?_⟩) λe s' g=>?_)
  ·have z:=g.laid (c:=r.toRowW.claim) Q7 hwi hi L
   exact (.mk z.1 z.2.1 z.2.2 (λq=>⟨namesKept_of hT hg _ keeps g.2.1.old,noTable hwr q⟩))
  ·have z:=g.laid (c:=r.toRowW.claim) Q7 hwi hi L
   exact (.mk z.1 z.2.1 z.2.2 (λq=>⟨namesKept_of hT hg _ keeps g.2.1.old,noTable hwr q⟩))
end
section
open _root_.PySem _root_.PySem.W _root_.PySem.Calls PyProof.Rows _root_.PySem.Spec
section
set_option backward.match.sparseCases true
theorem afE:(MM.map Str.ofString).Nodup:=by decide+kernel
theorem acH:(MM.all λt=>PyData.strOk (Str.ofString t))=true:=by decide+kernel
theorem Eg {R:WRecords}{cl:Str->Option Addr}{h:Heap}{ns:List Int}:∀{vs:List Value}{as:List Addr},ReadsAllW R cl h vs (ns.map .int) as->IntsAre vs ns:=by
 induction ns with
 |nil=>exact λr=>(readsAllW_nil_inv r).1 ▸.nil
 |cons n ns ih=>
  intro vs as r;refine uy (readsAllW_cons_inv r) λv vs1 a1 a2 e e2 r1 r2=>?_;refine aQ (readsW_int_inv r1) λt e3 e4=>?_;exact e▸e3▸.cons n t (ih r2)
noncomputable abbrev wx:RowW:=PySem.Challenge.rw_pq0905_01.row.toRowW
theorem PY {n:Int}{o:Option WData}(h:o=some (.bool (decide ((63:Int)<n))))(h4:WTm.holds [] (.and (.not .res) (.lit (.bool true))) {args:=[],res:=o}=true):n<=63:=by
 refine Int.not_lt.mp λhn=>?_;rw [h,decide_eq_true hn] at h4;exact Bool.noConfusion h4
theorem PZ {args:List WData}{sh:WShape}(h:WShape.hasAll [] args [sh]=true):∃d,args=[d]/\WShape.has [] d sh=true:=by
 cases args with
 |nil=>exact Bool.noConfusion h
 |cons d ds=>
  refine cX (Bool.and_eq_true_iff.mp h) λh1 h2=>?_;cases ds with
  |nil=>exact ⟨d,rfl,h1⟩
  |cons a b=>exact Bool.noConfusion h2
theorem LZ {args:List WData}(h:wx.claim.pre args=true):∃ns:List Int,args=[.list (ns.map .int)]/\ns.length<=63:=by
 refine cX (Bool.and_eq_true_iff.mp h) λh1 h2=>?_;refine aQ (PZ h1) λd e h5=>?_;subst e;refine aQ (hasW_list h5) λxs e h3=>?_;subst e;obtain ⟨ns,e⟩:=items_int h3;subst e;exact ⟨ns,rfl,by have:=PY (n:=((ns.map WData.int).length:Nat)) rfl h2;rw [List.length_map] at this;exact Int.ofNat_le.mp this⟩
theorem HM {a b:List WData}:wx.claim.post a (.bool true) b=true:=by kernel_rfl
def abc (w:World)(h:Heap):Px:=⟨PySem.Challenge.pw_pq0905_01,w,fA,Bp,GQ,w.params,h⟩
def Q9 (K:Params->Frag)(q:Program)(w:World)(h:Heap)(mg mb:OV):Cx:=⟨K w.params,abc w h,q,looseW q ["BoardError","Process"],mg,mb⟩
theorem L3 {K:Params->Frag}{q:Program}(hK:∀P,qE (K P)) {w:World} {se ba:Shared} {mg mb:OV} {l:Addr} {ns:List Int} {vs:Array Value} (X:(K w.params).In ba.heap) (T:TopRead q (looseW q ["BoardError","Process"]) mg mb ba.heap) (hg:ba.gens=#[])
  (hl:ba.heap.IsList l vs) (hi:IntsAre vs.toList ns) (hn:ns.length<=63):
  ey (model PySem.Challenge.pw_pq0905_01 w) callerA (PySem.call (.ref (Bp .nP)) [.ref l]) (λv s'=>GoodWG wx.claim (classAt se.heap) (ExcName.means se.heap) [.list (ns.map .int)] ba (.ok (.ret v)) s')
   (λe s'=>GoodWG wx.claim (classAt se.heap) (ExcName.means se.heap) [.list (ns.map .int)] ba (.error e) s') ba:=by
 have run:=Od (Γ:=Q9 K q w ba.heap mg mb) (Bv (hK w.params)) (s:=ba) X T rfl (f:=.nP) (g:=Iz) (vs:=[.ref l]) (cvs:=[.ref l]) (H:=λb=>if b=l then some (.ro ns) else none) (Q:=λv Z=>v=.bool true) (j:=12) rfl rfl ⟨rfl,trivial⟩
  (.mk List.nodup_nil (λb o hb=>?_)) (LY (if_pos rfl) (by omega)) (by decide)
 ·refine lJ (kb run λr s' hr=>?_)
  refine hr _ λv cv H' e hv q sm keep=>?_;subst e;subst q;rw [show cv=_ from hv];exact ⟨.inl ⟨.bool true,.bool true,[],rfl,λZ=>rfl,.bool true,HM,λZ=>⟨List.nodup_nil,λa ha=>by cases ha⟩⟩,.of_keep keep,sm.o,.of_eq (sm.g.trans hg)⟩
 ·split at hb
  ·rename_i e
   subst e;cases hb;exact (.mk vs.toList hl hi)
  ·cases hb
theorem HN {R:WRecords}{cl:Str->Option Addr}{h:Heap}{ns:List Int}{vals:List Value}{as:List Addr}(r:ReadsAllW R cl h vals [.list (ns.map .int)] as):∃l vs,vals=[.ref l]/\h.IsList l vs/\IntsAre vs.toList ns:=by
 refine uy (readsAllW_cons_inv r) λv vs1 a1 a2 e e2 r1 r2=>?_;obtain ⟨a,vs,as',e3,i,r3,e4⟩:=readsW_list_inv r1;exact ⟨a,vs,(readsAllW_nil_inv r2).1 ▸e3▸e,i,Eg r3⟩
theorem tail {q:Program}{K:Params->Frag}{L:List Addr}{e:∀P,L=(K P).map (·.1)} {ts:List Addr} {d:DefRec} {Uv:List (Str×PySem.Expr)} (hK:∀P,qE (K P)) (hn:d.name=Nm.nP.s):Q6 q ["BoardError","Process"] (XL q []) (kmHook K L e ts).says wx d Uv:=by
 intro w se ba mg mb G Y a o pm cd doc dV kV ho hod Vg hD hmg Cr args vals as zD HK Y5 Yh rR;have X:=km_in_of Y;have T:=topRead_of G.T;have ea:a=Bp .nP:=Value.ref.inj (Option.some.inj ((congrArg mg hn▸hmg:mg Nm.nP.s=some (.ref a)).symm.trans (mg_of X T.g (((Bv (hK w.params):Facts (Q9 K q w ba.heap mg mb))).FO.EE .nP Iz rfl rfl).1)));refine aQ (LZ zD) λns e hn=>?_;clear Yh rR zD HK G Y hmg ho hod Vg hD;subst ea;subst e;refine nK (HN Y5) λl vs e i hi=>?_;clear Y5;subst e;exact L3 hK X T Cr i hi hn
end
end
end
theorem q.he.tw2609573626582676493 : True := trivial
theorem q.he.tw15145008998812553869 : True := trivial
theorem q.he.tw11713018829276875423 : True := trivial
theorem q.he.tw11043408301619214271 : True := trivial
theorem q.he.tw6165906480377660422 : True := trivial
theorem q.he.tw10133636095667871334 : True := trivial
theorem q.he.tw10576262095661484465 : True := trivial
theorem q.he.tw16887458138121482289 : True := trivial
theorem q.he.tw2695047773130365768 : True := trivial
theorem q.he.tw6944160943714936698 : True := trivial
theorem q.he.tw9711084078124183077 : True := trivial
theorem q.he.tw17175817868769681701 : True := trivial
theorem q.he.tw10386017921973436108 : True := trivial
theorem q.he.tw4933027125216130071 : True := trivial
theorem q.he.tw3280286260221295991 : True := trivial
theorem q.he.tw6200116172242995671 : True := trivial
theorem q.he.tw14671760605831126935 : True := trivial
theorem q.he.tw2262463536491132606 : True := trivial
theorem q.he.tw5893973753255110816 : True := trivial
theorem q.he.tw15454218605645352379 : True := trivial
theorem q.he.tw3249819374692735794 : True := trivial
theorem q.he.tw14161365614220344530 : True := trivial
theorem q.he.tw17422804353992167826 : True := trivial
theorem q.he.tw13095957999434667410 : True := trivial
theorem q.he.tw12488913283529269586 : True := trivial
theorem q.he.tw4726811764945663858 : True := trivial
theorem q.he.tw4598942396584028893 : True := trivial
theorem q.he.tw18360883360001591421 : True := trivial
theorem q.he.tw9610070169344432420 : True := trivial
theorem q.he.tw351711293592648260 : True := trivial
theorem q.he.tw8352860235367384228 : True := trivial
theorem q.he.tw14440064741887412047 : True := trivial
theorem q.he.tw12349180184678167937 : True := trivial
theorem q.he.tw14563038858502026881 : True := trivial
theorem q.he.tw5970857036565964376 : True := trivial
theorem q.he.tw11418785681674359320 : True := trivial
theorem q.he.tw12741768384935471987 : True := trivial
theorem q.he.tw3506110916518436275 : True := trivial
theorem q.he.tw4046300693865444723 : True := trivial
theorem q.he.tw1170497513765142835 : True := trivial
theorem q.he.tw4550461748388966890 : True := trivial
theorem q.he.tw13582509233513047210 : True := trivial
theorem q.he.tw10560642859989788874 : True := trivial
theorem q.he.tw13341561189998322261 : True := trivial
theorem q.he.tw11516049340194021724 : True := trivial
theorem q.he.tw18286468219554332167 : True := trivial
theorem q.he.tw13188323267102330983 : True := trivial
theorem q.he.tw8731361409938220007 : True := trivial
theorem q.he.tw1186666639223592185 : True := trivial
theorem q.he.tw13126120130416183641 : True := trivial
theorem q.he.tw529611730977802393 : True := trivial
theorem q.he.tw2489018838448601625 : True := trivial
theorem q.he.tw7268930897696255440 : True := trivial
theorem q.he.tw4144775064384789168 : True := trivial
theorem q.he.tw8990119151245381936 : True := trivial
theorem q.he.tw10203858998528584395 : True := trivial
theorem q.he.tw3145691033203339051 : True := trivial
theorem q.he.tw14191682701110804267 : True := trivial
theorem q.he.tw11275345785292802891 : True := trivial
theorem q.he.tw6765677102401876034 : True := trivial
theorem q.he.tw425301166110690178 : True := trivial
theorem q.he.tw1956772275687759040 : True := trivial
section
open _root_.PySem _root_.PySem.W PyProof.Rows
set_option Elab.async true
set_option maxRecDepth 100000 in
set_option maxHeartbeats 0 in
theorem q.he : PySem.Challenge.rw_pq0905_01.Holds := by
  first
  | exact with_decl_name% Internal.q.he.a ((show PySem.Challenge.rw_pq0905_01.Holds from (by w_on; o_law; k_head; (case hw => w_witness2); fail)) :)
  | exact with_decl_name% Internal.q.he.a ((show PySem.Challenge.rw_pq0905_01.Holds from (by w_on; o_law; k_head; (case hw => w_witness2); exact tail (fun P => .mk (by kernel_rfl) (by kernel_rfl) (by kernel_rfl) (by kernel_rfl) (by kernel_rfl) (by kernel_rfl) (by kernel_rfl) (by kernel_rfl) (by kernel_rfl) acH afE) rfl)) :)
end
end Internal
theorem PySem.Challenge.cw_pq0905_01_holds : PySem.Challenge.rw_pq0905_01.Holds :=
  Internal.q.he
