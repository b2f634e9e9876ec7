import PyProof.Rows.All
import Wide.All
import OpenK.AllK
import Wide.FinOn
import KE.KDictSum
import KE.KSortTup
import Lean
import PySem.Challenge.RW_sa0037_01
open PySem PySem.W PySem.Calls PyProof.Rows
set_option linter.unusedVariables false
set_option Elab.async false
set_option maxRecDepth 100000
namespace Mine
noncomputable section
noncomputable section
set_option genSizeOfSpec false
set_option genInjectivity false
inductive XN where | v (i:Nat) | k (n:Nat) | a (x y:XN) | m (n:Nat) (x:XN) | r (x:XN) (n:Nat)
inductive XZ where | v (i:Nat) | k (n:Int) | c (x:XN) | a (x y:XZ) | s (x y:XZ) | m (n:Int) (x:XZ) | r (x:XZ) (n:Int)
inductive XH where
 | o
 | l (m:Nat) (x y:XZ) (t:XH)
 | e (m:Int) (x y:XZ) (t:XH)
 | n (m:Nat) (x y:XZ) (t:XH)
 | L (m:Nat) (x y:XN) (t:XH)
 | E (m:Int) (x y:XN) (t:XH)
 | N (m:Nat) (x y:XN) (t:XH)
abbrev XP:=Nat→Nat→Int
def xV {α:Type} (e:α→Int) (l:List α):(Nat→Int)→Int:=List.rec (λ _=>0) (λ a _ ih f=>f 0*e a+ih λ i=>f (i+1)) l
def xg {α:Type} (d:α) (l:List α):Nat→α:=List.rec (λ _=>d) (λ a _ ih i=>Nat.rec a (λ j _=>ih j) i) l
def xu (s i:Nat):XP:=λ t j=>cond (Nat.beq s t) (cond (Nat.beq i j) 1 0) 0
def xo:XP:=λ _ _=>0
def xc (m:Int) (b x y:XP):XP:=λ s i=>b s i-m*(y s i-x s i)
def xv (z:List Int) (n:List Nat) (f:XP):Int:=f 0 0+(xV id z (f 1)+xV Nat.cast n (f 2))
theorem Ac {α:Type} (e:α→Int) (l:List α):xV e l (λ _=>0)=0:=by
 induction l with
 | nil=>rfl
 | cons a t ih=>show 0*e a+xV e t (λ _=>0)=0;rw[ih,Int.zero_mul];rfl
theorem Lw {α:Type} (e:α→Int) (l:List α) (m:Int) (b x y:Nat→Int):xV e l (λ i=>b i-m*(y i-x i))=xV e l b-m*(xV e l y-xV e l x):=by
 induction l generalizing b x y with
 | nil=>exact (Int.mul_zero m).symm▸rfl
 | cons a t ih=>
  show (b 0-m*(y 0-x 0))*e a+xV e t _=(b 0*e a+xV e t λ i=>b (i+1))-m*((y 0*e a+xV e t λ i=>y (i+1))-(x 0*e a+xV e t λ i=>x (i+1)))
  rw[ih]
  generalize e a=p
  generalize xV e t _=q
  generalize xV e t _=r
  generalize xV e t _=s
  grind
theorem Lu {α:Type} (e:α→Int) (d:α) (h:e d=0) (l:List α) (i:Nat):xV e l (λ j=>cond (Nat.beq i j) 1 0)=e (xg d l i):=by
 induction l generalizing i with
 | nil=>exact h.symm
 | cons a t ih=>cases i with
  | zero=>exact (congrArg (1*e a+ ·) (Ac e t)).trans ((Int.add_zero _).trans (Int.one_mul _))
  | succ i=>exact (congrArg (0*e a+ ·) (ih i)).trans ((Int.zero_mul (e a)).symm▸Int.zero_add _)
section
variable (z:List Int) (n:List Nat)
theorem Bq:xv z n xo=0:=by
 show (0:Int)+(xV id z (λ _=>0)+xV Nat.cast n (λ _=>0))=0
 rw[Ac,Ac];rfl
theorem D9:xv z n (xu 0 0)=1:=by
 show (1:Int)+(xV id z (λ _=>0)+xV Nat.cast n (λ _=>0))=1
 rw[Ac,Ac];rfl
theorem Lr (i:Nat):xv z n (xu 1 i)=xg 0 z i:=by
 show (0:Int)+(xV id z (λ j=>cond (Nat.beq i j) 1 0)+xV Nat.cast n (λ _=>0))=_
 rw[Ac,Lu id 0 rfl,Int.add_zero,Int.zero_add];rfl
theorem Ls (i:Nat):xv z n (xu 2 i)=(xg 0 n i:Nat):=by
 show (0:Int)+(xV id z (λ _=>0)+xV Nat.cast n (λ j=>cond (Nat.beq i j) 1 0))=_
 rw[Ac,Lu Nat.cast 0 rfl,Int.zero_add,Int.zero_add]
theorem uE (m:Int) (b x y:XP):xv z n (xc m b x y)=xv z n b-m*(xv z n y-xv z n x):=by
 show (b 0 0-m*(y 0 0-x 0 0))+(xV id z (λ i=>b 1 i-m*(y 1 i-x 1 i))+xV Nat.cast n (λ i=>b 2 i-m*(y 2 i-x 2 i)))=_
 rw[Lw,Lw]
 show _=(b 0 0+(xV id z (b 1)+xV Nat.cast n (b 2)))-m*((y 0 0+(xV id z (y 1)+xV Nat.cast n (y 2)))-(x 0 0+(xV id z (x 1)+xV Nat.cast n (x 2))))
 grind
theorem Dz (x y:XP):xv z n (xc (-1) x xo y)=xv z n x+xv z n y:=by
 rw[uE,Bq,Int.sub_zero,Int.neg_mul,Int.one_mul,Int.sub_neg]
theorem Il (x y:XP):xv z n (xc 1 x xo y)=xv z n x-xv z n y:=by
 rw[uE,Bq,Int.sub_zero,Int.one_mul]
theorem xG (k:Int) (x:XP):xv z n (xc (-k) xo xo x)=k*xv z n x:=by
 rw[uE,Bq,Int.sub_zero,Int.neg_mul,Int.sub_neg,Int.zero_add]
theorem Dx (k:Int):xv z n (xc (-k) xo xo (xu 0 0))=k:=by rw[xG,D9,Int.mul_one]
def XN.d:XN→Nat:=XN.rec (xg 0 n) (λ k=>k) (λ _ _ a b=>a+b) (λ k _ a=>k*a) (λ _ k a=>a*k)
def XN.p:XN→XP:=XN.rec (λ i=>xu 2 i) (λ k=>xc (-k) xo xo (xu 0 0)) (λ _ _ a b=>xc (-1) a xo b) (λ k _ a=>xc (-k) xo xo a) (λ _ k a=>xc (-k) xo xo a)
def XZ.d:XZ→Int:=XZ.rec (xg 0 z) (λ k=>k) (λ x=>(x.d n:Nat)) (λ _ _ a b=>a+b) (λ _ _ a b=>a-b) (λ k _ a=>k*a) (λ _ k a=>a*k)
def XZ.p:XZ→XP:=XZ.rec (λ i=>xu 1 i) (λ k=>xc (-k) xo xo (xu 0 0)) XN.p (λ _ _ a b=>xc (-1) a xo b) (λ _ _ a b=>xc 1 a xo b) (λ k _ a=>xc (-k) xo xo a) (λ _ k a=>xc (-k) xo xo a)
theorem XN.ok (x:XN):xv z n x.p=(x.d n:Nat):=by
 induction x with
 | v i=>exact Ls z n i
 | k k=>exact Dx z n k
 | a x y h1 h2=>exact (Dz z n x.p y.p).trans (h1▸h2▸rfl)
 | m k x h=>exact (xG z n k x.p).trans (h▸(Int.natCast_mul ..).symm)
 | r x k h=>exact (xG z n k x.p).trans (h▸(Int.mul_comm ..).trans (Int.natCast_mul ..).symm)
theorem XZ.ok (x:XZ):xv z n x.p=x.d z n:=by
 induction x with
 | v i=>exact Lr z n i
 | k k=>exact Dx z n k
 | c x=>exact XN.ok z n x
 | a x y h1 h2=>exact (Dz z n x.p y.p).trans (h1▸h2▸rfl)
 | s x y h1 h2=>exact (Il z n x.p y.p).trans (h1▸h2▸rfl)
 | m k x h=>exact (xG z n k x.p).trans (h▸rfl)
 | r x k h=>exact (xG z n k x.p).trans (h▸Int.mul_comm ..)
def XH.g (g:Prop):XH→Prop:=XH.rec g (λ _ x y _ t=>x.d z n≤y.d z n→t) (λ _ x y _ t=>x.d z n=y.d z n→t) (λ _ x y _ t=>¬x.d z n≤y.d z n→t)
 (λ _ x y _ t=>x.d n≤y.d n→t) (λ _ x y _ t=>x.d n=y.d n→t) (λ _ x y _ t=>¬x.d n≤y.d n→t)
def XH.s:XH→XP→XP:=XH.rec (λ b=>b) (λ m x y _ t b=>t (xc m b x.p y.p)) (λ m x y _ t b=>t (xc m b x.p y.p)) (λ m x y _ t b=>t (xc m b (xc (-1) y.p xo (xu 0 0)) x.p))
 (λ m x y _ t b=>t (xc m b x.p y.p)) (λ m x y _ t b=>t (xc m b x.p y.p)) (λ m x y _ t b=>t (xc m b (xc (-1) y.p xo (xu 0 0)) x.p))
def xz (l:List Int):(Nat→Int)→Bool:=List.rec (λ _=>true) (λ _ _ ih f=>decide (f 0=0)&&ih λ i=>f (i+1)) l
def xn (l:List Nat):(Nat→Int)→Bool:=List.rec (λ _=>true) (λ _ _ ih f=>decide (0≤f 0)&&ih λ i=>f (i+1)) l
def XP.ok (p:XP):Bool:=decide (0≤p 0 0)&&(xz z (p 1)&&xn n (p 2))
theorem Lq (l:List Int) (f:Nat→Int) (h:xz l f=true):xV id l f=0:=by
 induction l generalizing f with
 | nil=>rfl
 | cons a t ih=>
  have h:=Bool.and_eq_true_iff.mp (show (decide (f 0=0)&&xz t λ i=>f (i+1))=true from h)
  show f 0*a+xV id t _=0
  rw[ih _ h.2,of_decide_eq_true h.1,Int.zero_mul];rfl
theorem Lt (l:List Nat) (f:Nat→Int) (h:xn l f=true):0≤xV Nat.cast l f:=by
 induction l generalizing f with
 | nil=>exact Int.le_refl 0
 | cons a t ih=>
  have h:=Bool.and_eq_true_iff.mp (show (decide (0≤f 0)&&xn t λ i=>f (i+1))=true from h)
  exact Int.add_nonneg (Int.mul_nonneg (of_decide_eq_true h.1) (Int.natCast_nonneg a)) (ih _ h.2)
theorem XP.ok_ok (p:XP) (h:p.ok z n=true):0≤xv z n p:=by
 have h:=Bool.and_eq_true_iff.mp h
 have k:=Bool.and_eq_true_iff.mp h.2
 exact Int.add_nonneg (of_decide_eq_true h.1) ((Lq z _ k.1).symm▸Int.add_nonneg (Int.le_refl 0) (Lt n _ k.2))
theorem vF {m:Int} {b x y:XP} (q:0≤xv z n (xc m b x y)) (hm:0≤m) (h:xv z n x≤xv z n y):0≤xv z n b:=
 Int.le_trans (uE z n m b x y▸q) (Int.sub_le_self _ (Int.mul_nonneg hm (Int.sub_nonneg_of_le h)))
theorem Dy {m:Int} {b x y:XP} (q:0≤xv z n (xc m b x y)) (h:xv z n x=xv z n y):0≤xv z n b:=by
 rw[uE,h,Int.sub_self,Int.mul_zero,Int.sub_zero] at q;exact q
theorem XH.ok (g:Prop) (H:XH):∀b:XP,(0≤xv z n b→g)→(H.s b).ok z n=true→H.g z n g:=by
 have e1:∀x:XP,xv z n (xc (-1) x xo (xu 0 0))=xv z n x+1:=λ x=>(Dz z n x _).trans (D9 z n▸rfl)
 induction H with
 | o=>exact λ b h k=>h (XP.ok_ok z n b k)
 | l m x y t ih=>exact λ b h k hh=>ih _ (λ q=>h (vF z n q (Int.natCast_nonneg m) (XZ.ok z n x▸XZ.ok z n y▸hh))) k
 | e m x y t ih=>exact λ b h k hh=>ih _ (λ q=>h (Dy z n q (XZ.ok z n x▸XZ.ok z n y▸hh))) k
 | n m x y t ih=>exact λ b h k hh=>ih _ (λ q=>h (vF z n q (Int.natCast_nonneg m) (e1 _▸XZ.ok z n x▸XZ.ok z n y▸Int.lt_of_not_ge hh))) k
 | L m x y t ih=>exact λ b h k hh=>ih _ (λ q=>h (vF z n q (Int.natCast_nonneg m) (XN.ok z n x▸XN.ok z n y▸Int.ofNat_le.mpr hh))) k
 | E m x y t ih=>exact λ b h k hh=>ih _ (λ q=>h (Dy z n q (XN.ok z n x▸XN.ok z n y▸congrArg _ hh))) k
 | N m x y t ih=>exact λ b h k hh=>ih _ (λ q=>h (vF z n q (Int.natCast_nonneg m) (e1 _▸XN.ok z n x▸XN.ok z n y▸Int.ofNat_lt.mpr (Nat.lt_of_not_le hh)))) k
theorem xle {k:Nat} {x y:XP} (q:0≤xv z n (xc (k+1:Nat) (xc (-k) xo xo (xu 0 0)) y x)):xv z n x≤xv z n y:=by
 rw[uE,Dx] at q
 refine Int.not_lt.mp λ h=>?_
 have:=Int.mul_le_mul_of_nonneg_left (show (1:Int)≤xv z n x-xv z n y from Int.le_sub_left_of_add_le h) (Int.natCast_nonneg (k+1))
 rw[Int.mul_one] at this
 exact absurd (Int.ofNat_le.mp (Int.le_trans this (Int.le_of_sub_nonneg q))) (Nat.not_succ_le_self k)
theorem xZ (H:XH) (k:Nat) (x y:XZ) (h:(H.s (xc (k+1:Nat) (xc (-k) xo xo (xu 0 0)) y.p x.p)).ok z n=true):H.g z n (x.d z n≤y.d z n):=
 H.ok z n _ _ (λ q=>XZ.ok z n x▸XZ.ok z n y▸xle z n q) h
theorem xN (H:XH) (k:Nat) (x y:XN) (h:(H.s (xc (k+1:Nat) (xc (-k) xo xo (xu 0 0)) y.p x.p)).ok z n=true):H.g z n (x.d n≤y.d n):=
 H.ok z n _ _ (λ q=>Int.ofNat_le.mp (XN.ok z n x▸XN.ok z n y▸xle z n q)) h
theorem xF (H:XH) (h:(H.s (xc 1 xo xo (xu 0 0))).ok z n=true):H.g z n False:=
 H.ok z n _ _ (λ q=>by rw[Il,Bq,D9] at q;exact absurd q (by decide)) h
end
end
theorem lq0 (h:10<9):False:=xF [] [] (.L 1 (.a (.k 10) (.k 1)) (.k 9) .o) rfl h
theorem lq1 (h:3≤1):False:=xF [] [] (.L 1 (.k 3) (.k 1) .o) rfl h
theorem lq2 (h:3≤2):False:=xF [] [] (.L 1 (.k 3) (.k 2) .o) rfl h
theorem lq3 (h:9<9):False:=xF [] [] (.L 1 (.a (.k 9) (.k 1)) (.k 9) .o) rfl h
theorem lq6 {a:Int} (h: -1000000000≤a): -4000000000≤a:=xZ [a] [] (.l 1 (.k (-1000000000)) (.v 0) .o) 0 (.k (-4000000000)) (.v 0) rfl h
theorem lq7 {a:Int} (h: -1000000000≤a): -4000000000≤a+(1-1):=xZ [a] [] (.l 1 (.k (-1000000000)) (.v 0) .o) 0 (.k (-4000000000)) (.a (.v 0) (.s (.k 1) (.k 1))) rfl h
theorem lq8 {a:Int} (h: -4000000000≤a): -2^63≤a:=xZ [a] [] (.l 1 (.k (-4000000000)) (.v 0) .o) 0 (.k (-(2^63))) (.v 0) rfl h
theorem lq9 {a:Int} (h:0≤a∧a≤1000*1000000): -2^63≤a∧a<2^63:=⟨xZ [a] [] (.l 1 (.k 0) (.v 0) .o) 0 (.k (-(2^63))) (.v 0) rfl h.1,xZ [a] [] (.l 1 (.v 0) (.m 1000 (.k 1000000)) .o) 0 (.a (.v 0) (.k 1)) (.k (2^63)) rfl h.2⟩
theorem CA {a:Int} (h:0≤a∧a≤1000000): -2^63≤a∧a<2^63:=⟨xZ [a] [] (.l 1 (.k 0) (.v 0) .o) 0 (.k (-(2^63))) (.v 0) rfl h.1,xZ [a] [] (.l 1 (.v 0) (.k 1000000) .o) 0 (.a (.v 0) (.k 1)) (.k (2^63)) rfl h.2⟩
theorem BZ {a:Int} (h:0≤a): -1000000000≤a:=xZ [a] [] (.l 1 (.k 0) (.v 0) .o) 0 (.k (-1000000000)) (.v 0) rfl h
theorem BY {a:Int} (h:0≤a):a=((a.toNat:Nat):Int):=Int.le_antisymm (xZ [a] [(a.toNat)] (.e (-1) (.c (.v 0)) (.v 0) .o) 0 (.v 0) (.c (.v 0)) rfl (Int.toNat_of_nonneg (xZ [a] [(a.toNat)] (.l 1 (.k 0) (.v 0) .o) 0 (.k 0) (.v 0) rfl h))) (xZ [a] [(a.toNat)] (.e 1 (.c (.v 0)) (.v 0) .o) 0 (.c (.v 0)) (.v 0) rfl (Int.toNat_of_nonneg (xZ [a] [(a.toNat)] (.l 1 (.k 0) (.v 0) .o) 0 (.k 0) (.v 0) rfl h)))
theorem BX {a:Int} (h:1≤a∧a≤1534):0≤a∧a≤1000000:=⟨xZ [a] [] (.l 1 (.k 1) (.v 0) .o) 0 (.k 0) (.v 0) rfl h.1,xZ [a] [] (.l 1 (.v 0) (.k 1534) .o) 0 (.v 0) (.k 1000000) rfl h.2⟩
theorem BW {a:Int} (h:1≤a∧a≤1534):0≤a∧a≤1534:=⟨xZ [a] [] (.l 1 (.k 1) (.v 0) .o) 0 (.k 0) (.v 0) rfl h.1,xZ [a] [] (.l 1 (.v 0) (.k 1534) .o) 0 (.v 0) (.k 1534) rfl h.2⟩
theorem Uo {a:Int} (h:1≤a∧a≤511):0≤a∧a≤1000000:=⟨xZ [a] [] (.l 1 (.k 1) (.v 0) .o) 0 (.k 0) (.v 0) rfl h.1,xZ [a] [] (.l 1 (.v 0) (.k 511) .o) 0 (.v 0) (.k 1000000) rfl h.2⟩
theorem Ue {a:Int} (h:1≤a∧a≤511):1≤a∧a≤1534:=⟨xZ [a] [] (.l 1 (.k 1) (.v 0) .o) 0 (.k 1) (.v 0) rfl h.1,xZ [a] [] (.l 1 (.v 0) (.k 511) .o) 0 (.v 0) (.k 1534) rfl h.2⟩
theorem BV {a:Int} (h:a≤1000000):a≤1000000000:=xZ [a] [] (.l 1 (.v 0) (.k 1000000) .o) 0 (.v 0) (.k 1000000000) rfl h
theorem BU {a:Int} (h:a≤1000000):a.toNat≤2^24:=by grind
theorem BS {a:Int} (h:a≤1000000000):a+(1-1)≤4000000000:=xZ [a] [] (.l 1 (.v 0) (.k 1000000000) .o) 0 (.a (.v 0) (.s (.k 1) (.k 1))) (.k 4000000000) rfl h
theorem Th {a:Int} (h:a≤1000000000):a≤4000000000:=xZ [a] [] (.l 1 (.v 0) (.k 1000000000) .o) 0 (.v 0) (.k 4000000000) rfl h
theorem BR {a:Int} (h:a≤1534):a.toNat≤1540:=by grind
theorem BQ {a:Int} (h:a≤4000000000):a<2^63:=xZ [a] [] (.l 1 (.v 0) (.k 4000000000) .o) 0 (.a (.v 0) (.k 1)) (.k (2^63)) rfl h
theorem Su {a:Int} (h:a≤800):0+a≤1600:=xZ [a] [] (.l 1 (.v 0) (.k 800) .o) 0 (.a (.k 0) (.v 0)) (.k 1600) rfl h
theorem BP {a:Int}:(a-0).toNat=a.toNat:=by grind
theorem BO {a:Int}:a-0=a:=Int.le_antisymm (xZ [a] [] .o 0 (.s (.v 0) (.k 0)) (.v 0) rfl) (xZ [a] [] .o 0 (.v 0) (.s (.v 0) (.k 0)) rfl)
theorem BN {a:Nat} (h:0<a):(a:Int)≠0:=xF [] [a] (.L 1 (.a (.k 0) (.k 1)) (.v 0) (.e 1 (.c (.v 0)) (.k 0) .o)) rfl h
theorem BM {a:Nat} (h:0≤(a:Int)∧(a:Int)<(a:Int)):False:=xF [] [a] (.l 1 (.a (.c (.v 0)) (.k 1)) (.c (.v 0)) .o) rfl h.2
theorem BL {a:Nat} (h:1≤a) (h1:a≤18):((((¬a=0∧¬a=23)∧¬a=26)∧¬a=27)∧¬a=28)∧¬a=29:=⟨⟨⟨⟨⟨xF [] [a] (.L 1 (.k 1) (.v 0) (.E 1 (.v 0) (.k 0) .o)) rfl h,xF [] [a] (.L 1 (.v 0) (.k 18) (.E (-1) (.v 0) (.k 23) .o)) rfl h1⟩,xF [] [a] (.L 1 (.v 0) (.k 18) (.E (-1) (.v 0) (.k 26) .o)) rfl h1⟩,xF [] [a] (.L 1 (.v 0) (.k 18) (.E (-1) (.v 0) (.k 27) .o)) rfl h1⟩,xF [] [a] (.L 1 (.v 0) (.k 18) (.E (-1) (.v 0) (.k 28) .o)) rfl h1⟩,xF [] [a] (.L 1 (.v 0) (.k 18) (.E (-1) (.v 0) (.k 29) .o)) rfl h1⟩
theorem BK {a:Nat} (h:1≤a) (h1:a≤18):(¬a=0∧¬a=28)∧¬a=29:=⟨⟨xF [] [a] (.L 1 (.k 1) (.v 0) (.E 1 (.v 0) (.k 0) .o)) rfl h,xF [] [a] (.L 1 (.v 0) (.k 18) (.E (-1) (.v 0) (.k 28) .o)) rfl h1⟩,xF [] [a] (.L 1 (.v 0) (.k 18) (.E (-1) (.v 0) (.k 29) .o)) rfl h1⟩
theorem BJ {a:Nat} (h:1≤a) (h1:a≤18):¬a=0∧¬a=32:=⟨xF [] [a] (.L 1 (.k 1) (.v 0) (.E 1 (.v 0) (.k 0) .o)) rfl h,xF [] [a] (.L 1 (.v 0) (.k 18) (.E (-1) (.v 0) (.k 32) .o)) rfl h1⟩
theorem K6 {a:Nat} (h:1≤a):¬a=0:=xF [] [a] (.L 1 (.k 1) (.v 0) (.E 1 (.v 0) (.k 0) .o)) rfl h
theorem BI {a:Nat} (h:12≤a):10≤a:=xN [] [a] (.L 1 (.k 12) (.v 0) .o) 0 (.k 10) (.v 0) rfl h
theorem Qg {a:Nat} (h:12≤a):2≤a:=xN [] [a] (.L 1 (.k 12) (.v 0) .o) 0 (.k 2) (.v 0) rfl h
theorem BH {a:Nat} (h:12≤a):6≤a:=xN [] [a] (.L 1 (.k 12) (.v 0) .o) 0 (.k 6) (.v 0) rfl h
theorem BG {a:Nat} (h:12≤a):8≤a:=xN [] [a] (.L 1 (.k 12) (.v 0) .o) 0 (.k 8) (.v 0) rfl h
theorem BF {a:Nat} (h:2≤a):a-1<a:=xN [] [a,(a-1)] (.E 1 (.a (.v 1) (.k 1)) (.v 0) .o) 0 (.a (.v 1) (.k 1)) (.v 0) rfl (Nat.sub_add_cancel (xN [] [a,(a-1)] (.L 1 (.k 2) (.v 0) .o) 0 (.k 1) (.v 0) rfl h))
theorem K5 {a:Nat} (h:3≤a):¬a=1∧¬a=2:=⟨xF [] [a] (.L 1 (.k 3) (.v 0) (.E 1 (.v 0) (.k 1) .o)) rfl h,xF [] [a] (.L 1 (.k 3) (.v 0) (.E 1 (.v 0) (.k 2) .o)) rfl h⟩
theorem BE {a:Nat} (h:8≤a) (h1:a<8):False:=xF [] [a] (.L 1 (.k 8) (.v 0) (.L 1 (.a (.v 0) (.k 1)) (.k 8) .o)) rfl h h1
theorem BD {a:Nat} (h:a*5<31*3) (h1:(a+1)*5≥31*3):a=18:=Nat.le_antisymm (xN [] [a] (.L 1 (.a (.r (.v 0) 5) (.k 1)) (.m 31 (.k 3)) .o) 4 (.v 0) (.k 18) rfl h) (xN [] [a] (.L 1 (.m 31 (.k 3)) (.r (.a (.v 0) (.k 1)) 5) .o) 4 (.k 18) (.v 0) rfl h1)
theorem BC {a:Nat} (h:a*5<7*3) (h1:(a+1)*5≥7*3):a=4:=Nat.le_antisymm (xN [] [a] (.L 1 (.a (.r (.v 0) 5) (.k 1)) (.m 7 (.k 3)) .o) 4 (.v 0) (.k 4) rfl h) (xN [] [a] (.L 1 (.m 7 (.k 3)) (.r (.a (.v 0) (.k 1)) 5) .o) 4 (.k 4) (.v 0) rfl h1)
theorem BA {a:Nat} (h:a*a≤40*40):(a:Int)*(a:Int)≤1600:=by grind
theorem AZ {a:Nat} (h:a<0+1):a=0:=Nat.le_antisymm (xN [] [a] (.L 1 (.a (.v 0) (.k 1)) (.a (.k 0) (.k 1)) .o) 0 (.v 0) (.k 0) rfl h) (xN [] [a] .o 0 (.k 0) (.v 0) rfl)
theorem AY {a:Nat} (h:a<11):10+a≤1000000:=xN [] [a] (.L 1 (.a (.v 0) (.k 1)) (.k 11) .o) 0 (.a (.k 10) (.v 0)) (.k 1000000) rfl h
theorem AX {a:Nat} (h:a<11):10+a≤20:=xN [] [a] (.L 1 (.a (.v 0) (.k 1)) (.k 11) .o) 0 (.a (.k 10) (.v 0)) (.k 20) rfl h
theorem AW {a:Nat} (h:a<2^63):(a:Int)<2^63:=xZ [] [a] (.L 1 (.a (.v 0) (.k 1)) (.k (2^63)) .o) 0 (.a (.c (.v 0)) (.k 1)) (.k (2^63)) rfl h
theorem AU {a:Nat} (h:a<2^63):(a:Int)<9223372036854775808:=xZ [] [a] (.L 1 (.a (.v 0) (.k 1)) (.k (2^63)) .o) 0 (.a (.c (.v 0)) (.k 1)) (.k 9223372036854775808) rfl h
theorem AT {a:Nat} (h:a<2) (h1:¬a=0):a=1:=(Nat.lt_or_gt_of_ne h1).elim (λ k1=>Nat.le_antisymm (xN [] [a] (.L 1000 (.a (.v 0) (.k 1)) (.k 0) .o) 0 (.v 0) (.k 1) rfl k1) (xN [] [a] (.L 1000 (.a (.v 0) (.k 1)) (.k 0) .o) 0 (.k 1) (.v 0) rfl k1)) (λ k2=>Nat.le_antisymm (xN [] [a] (.L 1 (.a (.v 0) (.k 1)) (.k 2) .o) 0 (.v 0) (.k 1) rfl h) (xN [] [a] (.L 1 (.a (.k 0) (.k 1)) (.v 0) .o) 0 (.k 1) (.v 0) rfl k2))
theorem AS {a:Nat} (h:a<2):a≤10000000:=xN [] [a] (.L 1 (.a (.v 0) (.k 1)) (.k 2) .o) 0 (.v 0) (.k 10000000) rfl h
theorem AR {a:Nat} (h:a<3):((a:Int)).natAbs<2^64:=by omega
theorem AQ {a:Nat} (h:a<3):1+a≤1000000:=xN [] [a] (.L 1 (.a (.v 0) (.k 1)) (.k 3) .o) 0 (.a (.k 1) (.v 0)) (.k 1000000) rfl h
theorem AP {a:Nat} (h:a<6):3+a≤1000000:=xN [] [a] (.L 1 (.a (.v 0) (.k 1)) (.k 6) .o) 0 (.a (.k 3) (.v 0)) (.k 1000000) rfl h
theorem AN {a:Nat} (h:a<64):a<1920:=xN [] [a] (.L 1 (.a (.v 0) (.k 1)) (.k 64) .o) 0 (.a (.v 0) (.k 1)) (.k 1920) rfl h
theorem AM {a:Nat} (h:a≤0):a+0≤40:=xN [] [a] (.L 1 (.v 0) (.k 0) .o) 0 (.a (.v 0) (.k 0)) (.k 40) rfl h
theorem AL {a:Nat} (h:a≤100):(a:Int)≤1000000:=xZ [] [a] (.L 1 (.v 0) (.k 100) .o) 0 (.c (.v 0)) (.k 1000000) rfl h
theorem AK {a:Nat} (h:a≤1000):((a:Int)-0).toNat≤100000:=xN [] [a,(((a:Int)-0).toNat)] (.L 1 (.v 0) (.k 1000) (.e 1 (.c (.v 1)) (.s (.c (.v 0)) (.k 0)) .o)) 0 (.v 1) (.k 100000) rfl h (Int.toNat_of_nonneg (xZ [] [a,(((a:Int)-0).toNat)] .o 0 (.k 0) (.s (.c (.v 0)) (.k 0)) rfl))
theorem AJ {a:Nat} (h:a≤1000):(a:Int)*1000000≤1000*1000000:=by grind
theorem AI {a:Nat} (h:a≤1000):(a:Int)<2^64:=xZ [] [a] (.L 1 (.v 0) (.k 1000) .o) 0 (.a (.c (.v 0)) (.k 1)) (.k (2^64)) rfl h
theorem AH {a:Nat} (h:a≤1000):(a:Int)≤1000000000:=xZ [] [a] (.L 1 (.v 0) (.k 1000) .o) 0 (.c (.v 0)) (.k 1000000000) rfl h
theorem AG {a:Nat} (h:a≤1000):a+1<2^63:=xN [] [a] (.L 1 (.v 0) (.k 1000) .o) 0 (.a (.a (.v 0) (.k 1)) (.k 1)) (.k (2^63)) rfl h
theorem AE {a:Nat} (h:a≤1000):a+1≤10000000:=xN [] [a] (.L 1 (.v 0) (.k 1000) .o) 0 (.a (.v 0) (.k 1)) (.k 10000000) rfl h
theorem K4 {a:Nat} (h:a≤1000):a≤10000000:=xN [] [a] (.L 1 (.v 0) (.k 1000) .o) 0 (.v 0) (.k 10000000) rfl h
theorem AD {a:Nat} (h:a≤1000):a≤16777216:=xN [] [a] (.L 1 (.v 0) (.k 1000) .o) 0 (.v 0) (.k 16777216) rfl h
theorem Mi {a:Nat} (h:a≤1000):a≤9999999:=by grind
theorem AC {a:Nat} (h:a≤100000):a≤100001:=xN [] [a] (.L 1 (.v 0) (.k 100000) .o) 0 (.v 0) (.k 100001) rfl h
theorem Ht {a:Nat} (h:a≤100000):a≤16777216:=xN [] [a] (.L 1 (.v 0) (.k 100000) .o) 0 (.v 0) (.k 16777216) rfl h
theorem AB {a:Nat} (h:a≤1000000):(a:Int)≤1000000000:=xZ [] [a] (.L 1 (.v 0) (.k 1000000) .o) 0 (.c (.v 0)) (.k 1000000000) rfl h
theorem AA {a:Nat} (h:a≤1000000):0≤(a:Int)∧(a:Int)≤1000000:=⟨xZ [] [a] .o 0 (.k 0) (.c (.v 0)) rfl,xZ [] [a] (.L 1 (.v 0) (.k 1000000) .o) 0 (.c (.v 0)) (.k 1000000) rfl h⟩
theorem Hs {a:Nat} (h:a≤10000000):a≤16777216:=xN [] [a] (.L 1 (.v 0) (.k 10000000) .o) 0 (.v 0) (.k 16777216) rfl h
theorem Z9 {a:Nat} (h:a≤1534):a+0+1≤1540∧1540≤1540:=⟨xN [] [a] (.L 1 (.v 0) (.k 1534) .o) 0 (.a (.a (.v 0) (.k 0)) (.k 1)) (.k 1540) rfl h,xN [] [a] .o 0 (.k 1540) (.k 1540) rfl⟩
theorem Z8 {a:Nat} (h:a≤1540):0≤(a:Int)∧(a:Int)≤1000000:=⟨xZ [] [a] .o 0 (.k 0) (.c (.v 0)) rfl,xZ [] [a] (.L 1 (.v 0) (.k 1540) .o) 0 (.c (.v 0)) (.k 1000000) rfl h⟩
theorem Z7 {a:Nat} (h:a≤1540):a+1≤1541:=xN [] [a] (.L 1 (.v 0) (.k 1540) .o) 0 (.a (.v 0) (.k 1)) (.k 1541) rfl h
theorem Mh {a:Nat} (h:a≤18):¬a=22:=xF [] [a] (.L 1 (.v 0) (.k 18) (.E (-1) (.v 0) (.k 22) .o)) rfl h
theorem K3 {a:Nat} (h:a≤3):1+a≤100000:=xN [] [a] (.L 1 (.v 0) (.k 3) .o) 0 (.a (.k 1) (.v 0)) (.k 100000) rfl h
theorem Z6 {a:Nat} (h:a≤3):a<64:=xN [] [a] (.L 1 (.v 0) (.k 3) .o) 0 (.a (.v 0) (.k 1)) (.k 64) rfl h
theorem K2 {a:Nat} (h:a≤3):a≤1000:=xN [] [a] (.L 1 (.v 0) (.k 3) .o) 0 (.v 0) (.k 1000) rfl h
theorem vW {a:Nat} (h:a≤3):a≤100000:=xN [] [a] (.L 1 (.v 0) (.k 3) .o) 0 (.v 0) (.k 100000) rfl h
theorem Mg {a:Nat} (h:a≤3):a≤9999999:=xN [] [a] (.L 1 (.v 0) (.k 3) .o) 0 (.v 0) (.k 9999999) rfl h
theorem Z5 {a:Nat} (h:a≤31):(a:Int)≤1000000:=xZ [] [a] (.L 1 (.v 0) (.k 31) .o) 0 (.c (.v 0)) (.k 1000000) rfl h
theorem Z4 {a:Nat} (h:a≤39):a+1≤1000:=xN [] [a] (.L 1 (.v 0) (.k 39) .o) 0 (.a (.v 0) (.k 1)) (.k 1000) rfl h
theorem Z3 {a:Nat} (h:a≤39):a+1≤40:=xN [] [a] (.L 1 (.v 0) (.k 39) .o) 0 (.a (.v 0) (.k 1)) (.k 40) rfl h
theorem Z2 {a:Nat} (h:a≤39):a≤10000000:=xN [] [a] (.L 1 (.v 0) (.k 39) .o) 0 (.v 0) (.k 10000000) rfl h
theorem Z1 {a:Nat} (h:a≤40):((a:Int)-0).toNat≤100000:=xN [] [a,(((a:Int)-0).toNat)] (.L 1 (.v 0) (.k 40) (.e 1 (.c (.v 1)) (.s (.c (.v 0)) (.k 0)) .o)) 0 (.v 1) (.k 100000) rfl h (Int.toNat_of_nonneg (xZ [] [a,(((a:Int)-0).toNat)] .o 0 (.k 0) (.s (.c (.v 0)) (.k 0)) rfl))
theorem Z0 {a:Nat} (h:a≤40):(a:Int)≤1000000000:=xZ [] [a] (.L 1 (.v 0) (.k 40) .o) 0 (.c (.v 0)) (.k 1000000000) rfl h
theorem Zz {a:Nat} (h:a≤40):1+a≤10000000:=xN [] [a] (.L 1 (.v 0) (.k 40) .o) 0 (.a (.k 1) (.v 0)) (.k 10000000) rfl h
theorem Zy {a:Nat} (h:a≤40):a*1541≤61640:=by grind
theorem Mf {a:Nat} (h:a≤40):a<64:=xN [] [a] (.L 1 (.v 0) (.k 40) .o) 0 (.a (.v 0) (.k 1)) (.k 64) rfl h
theorem Zx {a:Nat} (h:a≤40):a≤1000:=xN [] [a] (.L 1 (.v 0) (.k 40) .o) 0 (.v 0) (.k 1000) rfl h
theorem Me {a:Nat} (h:a≤40):a≤100000:=xN [] [a] (.L 1 (.v 0) (.k 40) .o) 0 (.v 0) (.k 100000) rfl h
theorem Md {a:Nat} (h:a≤40):a≤10000000:=xN [] [a] (.L 1 (.v 0) (.k 40) .o) 0 (.v 0) (.k 10000000) rfl h
theorem Zw {a:Nat} (h:a≤63):a≤100000:=xN [] [a] (.L 1 (.v 0) (.k 63) .o) 0 (.v 0) (.k 100000) rfl h
theorem Zv {a:Nat} (h:a≤900):a+1+1+1+1≤1000:=xN [] [a] (.L 1 (.v 0) (.k 900) .o) 0 (.a (.a (.a (.a (.v 0) (.k 1)) (.k 1)) (.k 1)) (.k 1)) (.k 1000) rfl h
theorem Zu {a:Nat} (h:a≤900):a+1+1+1≤1000:=xN [] [a] (.L 1 (.v 0) (.k 900) .o) 0 (.a (.a (.a (.v 0) (.k 1)) (.k 1)) (.k 1)) (.k 1000) rfl h
theorem Zt {a:Nat} (h:a≤900):a+1+1≤1000:=xN [] [a] (.L 1 (.v 0) (.k 900) .o) 0 (.a (.a (.v 0) (.k 1)) (.k 1)) (.k 1000) rfl h
theorem Zs {a:Nat} (h:¬a<2):0<a:=xN [] [a] (.N 1 (.a (.v 0) (.k 1)) (.k 2) .o) 0 (.a (.k 0) (.k 1)) (.v 0) rfl h
theorem Ey {a:Nat}:((a+1:Nat):Int)-1=(a:Int):=Int.le_antisymm (xZ [] [a] .o 0 (.s (.c (.a (.v 0) (.k 1))) (.k 1)) (.c (.v 0)) rfl) (xZ [] [a] .o 0 (.c (.v 0)) (.s (.c (.a (.v 0) (.k 1))) (.k 1)) rfl)
theorem Zr {a:Nat}:((a+1:Nat):Int)>0:=xZ [] [a] .o 0 (.a (.k 0) (.k 1)) (.c (.a (.v 0) (.k 1))) rfl
theorem K1 {a:Nat}:((a:Int)-0).toNat=a:=Nat.le_antisymm (xN [] [a,(((a:Int)-0).toNat)] (.e 1 (.c (.v 1)) (.s (.c (.v 0)) (.k 0)) .o) 0 (.v 1) (.v 0) rfl (Int.toNat_of_nonneg (xZ [] [a,(((a:Int)-0).toNat)] .o 0 (.k 0) (.s (.c (.v 0)) (.k 0)) rfl))) (xN [] [a,(((a:Int)-0).toNat)] (.e (-1) (.c (.v 1)) (.s (.c (.v 0)) (.k 0)) .o) 0 (.v 0) (.v 1) rfl (Int.toNat_of_nonneg (xZ [] [a,(((a:Int)-0).toNat)] .o 0 (.k 0) (.s (.c (.v 0)) (.k 0)) rfl)))
theorem Zq {a:Nat}:(a:Int)*(a:Int)+(a:Int)*((1:Nat):Int)+((1:Nat):Int)*((a:Int)+((1:Nat):Int))=(a:Int)*(a:Int)+2*(a:Int)+1:=by grind
theorem Zp {a:Nat}:(a:Int)≤(a:Int):=xZ [] [a] .o 0 (.c (.v 0)) (.c (.v 0)) rfl
theorem Vn {a:Nat}:(min 40 a)≤40:=xN [] [a,((min 40 a))] (.L 1 (.v 1) (.k 40) .o) 0 (.v 1) (.k 40) rfl (Nat.min_le_left ..)
theorem Vm {a:Nat}: -1000000000≤(a:Int):=xZ [] [a] .o 0 (.k (-1000000000)) (.c (.v 0)) rfl
theorem J1 {a:Nat}:0+(a:Int)=(a:Int):=Int.le_antisymm (xZ [] [a] .o 0 (.a (.k 0) (.c (.v 0))) (.c (.v 0)) rfl) (xZ [] [a] .o 0 (.c (.v 0)) (.a (.k 0) (.c (.v 0))) rfl)
theorem J0 {a:Nat}:0≤(a:Int):=xZ [] [a] .o 0 (.k 0) (.c (.v 0)) rfl
theorem Fl {a:Nat}:1+(a:Int)=((a+1:Nat):Int):=Int.le_antisymm (xZ [] [a] .o 0 (.a (.k 1) (.c (.v 0))) (.c (.a (.v 0) (.k 1))) rfl) (xZ [] [a] .o 0 (.c (.a (.v 0) (.k 1))) (.a (.k 1) (.c (.v 0))) rfl)
theorem Jz {a:Nat}:a+1+1+1+1+1≤a+10:=xN [] [a] .o 0 (.a (.a (.a (.a (.a (.v 0) (.k 1)) (.k 1)) (.k 1)) (.k 1)) (.k 1)) (.a (.v 0) (.k 10)) rfl
theorem Vl {a:Nat}:a+9-a≤9:=xN [] [a,(a+9-a)] (.E 1 (.a (.v 1) (.v 0)) (.a (.v 0) (.k 9)) .o) 0 (.v 1) (.k 9) rfl (Nat.sub_add_cancel (xN [] [a,(a+9-a)] .o 0 (.v 0) (.a (.v 0) (.k 9)) rfl))
theorem Vk {a:Nat}:a-0=a-0:=Nat.le_antisymm (xN [] [a,(a-0)] .o 0 (.v 1) (.v 1) rfl) (xN [] [a,(a-0)] .o 0 (.v 1) (.v 1) rfl)
theorem Vj {a:Nat}:a-a≤9:=xN [] [a,(a-a)] (.E 1 (.a (.v 1) (.v 0)) (.v 0) .o) 0 (.v 1) (.k 9) rfl (Nat.sub_add_cancel (xN [] [a,(a-a)] .o 0 (.v 0) (.v 0) rfl))
theorem Vi {a:Nat}:a≤a:=xN [] [a] .o 0 (.v 0) (.v 0) rfl
theorem Vh {a:Nat}:a≤a+1:=xN [] [a] .o 0 (.v 0) (.a (.v 0) (.k 1)) rfl
theorem Vg {a:Nat}:¬(a:Int)<(a:Int):=xF [] [a] (.l 1 (.a (.c (.v 0)) (.k 1)) (.c (.v 0)) .o) rfl
theorem Vf {a:Nat}:¬(a:Int)<0:=xF [] [a] (.l 1 (.a (.c (.v 0)) (.k 1)) (.k 0) .o) rfl
theorem Ve {a:Nat}:¬a<0:=xF [] [a] (.L 1 (.a (.v 0) (.k 1)) (.k 0) .o) rfl
theorem Vd {a:Nat}:¬a<a:=by omega
theorem Vc {a:Nat} {b:Int} (h:(a:Int)+b≤90000) (h1:0≤b):a≤100000:=xN [b] [a] (.l 1 (.a (.c (.v 0)) (.v 0)) (.k 90000) (.l 1 (.k 0) (.v 0) .o)) 0 (.v 0) (.k 100000) rfl h h1
theorem Vb {a:Nat} {b:Int} (h:a<20) (h1:1≤b∧b≤1+(a:Int)):0≤b∧b≤1000000:=⟨xZ [b] [a] (.l 1 (.k 1) (.v 0) .o) 0 (.k 0) (.v 0) rfl h1.1,xZ [b] [a] (.L 1 (.a (.v 0) (.k 1)) (.k 20) (.l 1 (.v 0) (.a (.k 1) (.c (.v 0))) .o)) 0 (.v 0) (.k 1000000) rfl h h1.2⟩
theorem Va {a:Nat} {b:Int} (h:a≤0):¬b.toNat<a:=xF [b] [a,(b.toNat)] (.L 1 (.v 0) (.k 0) (.L 1 (.a (.v 1) (.k 1)) (.v 0) .o)) rfl h
theorem U9 {a:Nat} {b:Int} (h:a≤20) (h1:b≤1+(a:Int)):b≤511:=xZ [b] [a] (.L 1 (.v 0) (.k 20) (.l 1 (.v 0) (.a (.k 1) (.c (.v 0))) .o)) 0 (.v 0) (.k 511) rfl h h1
theorem U8 {a:Nat} {b c:Int} (h:(a:Int)+b≤90000) (h1:c+1≤b):((a+1:Nat):Int)+c≤90000:=xZ [b,c] [a] (.l 1 (.a (.c (.v 0)) (.v 0)) (.k 90000) (.l 1 (.a (.v 1) (.k 1)) (.v 0) .o)) 0 (.a (.c (.a (.v 0) (.k 1))) (.v 1)) (.k 90000) rfl h h1
theorem U7 {a:Nat} {b c:Int} (h:a<(b-c).toNat):0<(((b-c).toNat:Nat):Int)-(a:Int):=xZ [b,c] [a,((b-c).toNat)] (.L 1 (.a (.v 0) (.k 1)) (.v 1) .o) 0 (.a (.k 0) (.k 1)) (.s (.c (.v 1)) (.c (.v 0))) rfl h
theorem U6 {a b:Int} (h: -1000000000≤a) (h1:b≤1000000000):(((b-a).toNat:Nat):Int)≤4000000000:=by omega
theorem U5 {a b:Int} (h:0≤a) (h1:0≤b):0≤b+a:=xZ [a,b] [] (.l 1 (.k 0) (.v 0) (.l 1 (.k 0) (.v 1) .o)) 0 (.k 0) (.a (.v 1) (.v 0)) rfl h h1
theorem U4 {a b:Int} (h:a<b):b-a-1+1=(((b-a).toNat:Nat):Int):=Int.le_antisymm (xZ [a,b] [((b-a).toNat)] (.e (-1) (.c (.v 0)) (.s (.v 1) (.v 0)) .o) 0 (.a (.s (.s (.v 1) (.v 0)) (.k 1)) (.k 1)) (.c (.v 0)) rfl (Int.toNat_of_nonneg (xZ [a,b] [((b-a).toNat)] (.l 1 (.a (.v 0) (.k 1)) (.v 1) .o) 0 (.k 0) (.s (.v 1) (.v 0)) rfl h))) (xZ [a,b] [((b-a).toNat)] (.e 1 (.c (.v 0)) (.s (.v 1) (.v 0)) .o) 0 (.c (.v 0)) (.a (.s (.s (.v 1) (.v 0)) (.k 1)) (.k 1)) rfl (Int.toNat_of_nonneg (xZ [a,b] [((b-a).toNat)] (.l 1 (.a (.v 0) (.k 1)) (.v 1) .o) 0 (.k 0) (.s (.v 1) (.v 0)) rfl h)))
theorem U3 {a b:Int} (h:¬a<b):0=(((b-a).toNat:Nat):Int):=by grind
theorem U2 {a b:Int}:(((a-b).toNat:Nat):Int)-(((a-b).toNat:Nat):Int)≤0:=xZ [a,b] [((a-b).toNat)] .o 0 (.s (.c (.v 0)) (.c (.v 0))) (.k 0) rfl
theorem U1 {a b:Nat} (h:(a:Int)<(b:Int)):0≤(a:Int)∧(a:Int)<((b+1:Nat):Int):=⟨xZ [] [a,b] .o 0 (.k 0) (.c (.v 0)) rfl,xZ [] [a,b] (.l 1 (.a (.c (.v 0)) (.k 1)) (.c (.v 1)) .o) 0 (.a (.c (.v 0)) (.k 1)) (.c (.a (.v 1) (.k 1))) rfl h⟩
theorem Fk {a b:Nat} (h:(a:Int)<(b:Int)):a<b:=xN [] [a,b] (.l 1 (.a (.c (.v 0)) (.k 1)) (.c (.v 1)) .o) 0 (.a (.v 0) (.k 1)) (.v 1) rfl h
theorem Jy {a b:Nat} (h:(a:Int)<(b:Int)):a<b+1:=xN [] [a,b] (.l 1 (.a (.c (.v 0)) (.k 1)) (.c (.v 1)) .o) 0 (.a (.v 0) (.k 1)) (.a (.v 1) (.k 1)) rfl h
theorem Jx {a b:Nat} (h:(a:Int)<(b:Int)):a≤b:=xN [] [a,b] (.l 1 (.a (.c (.v 0)) (.k 1)) (.c (.v 1)) .o) 0 (.v 0) (.v 1) rfl h
theorem U0 {a b:Nat} (h:(a:Int)>(b:Int)):b≤a:=xN [] [a,b] (.l 1 (.a (.c (.v 1)) (.k 1)) (.c (.v 0)) .o) 0 (.v 1) (.v 0) rfl h
theorem Uz {a b:Nat} (h:(a:Int)≤(b:Int)) (h1:a≠b):a<b:=(Nat.lt_or_gt_of_ne h1).elim (λ k1=>xN [] [a,b] (.L 1 (.a (.v 0) (.k 1)) (.v 1) .o) 0 (.a (.v 0) (.k 1)) (.v 1) rfl k1) (λ k2=>xN [] [a,b] (.l 1000 (.c (.v 0)) (.c (.v 1)) (.L 999 (.a (.v 1) (.k 1)) (.v 0) .o)) 0 (.a (.v 0) (.k 1)) (.v 1) rfl h k2)
theorem Uy {a b:Nat} (h:(min a b)<(max a b)):(((min a b):Nat):Int)≠(((max a b):Nat):Int):=xF [] [a,b,((min a b)),((max a b))] (.L 1 (.a (.v 2) (.k 1)) (.v 3) (.e (-1) (.c (.v 2)) (.c (.v 3)) .o)) rfl h
theorem Ux {a b:Nat} (h:0<a) (h1:b=a):0<b:=xN [] [a,b] (.L 1 (.a (.k 0) (.k 1)) (.v 0) (.E (-1) (.v 1) (.v 0) .o)) 0 (.a (.k 0) (.k 1)) (.v 1) rfl h h1
theorem Uw {a b:Nat} (h:4096≤a) (h1:b=127):¬b+1>a:=xF [] [a,b] (.L 1 (.k 4096) (.v 0) (.E 1 (.v 1) (.k 127) (.L 1 (.a (.v 0) (.k 1)) (.a (.v 1) (.k 1)) .o))) rfl h h1
theorem Uv {a b:Nat} (h:4096≤a) (h1:b=31):¬b+1>a:=xF [] [a,b] (.L 1 (.k 4096) (.v 0) (.E 1 (.v 1) (.k 31) (.L 1 (.a (.v 0) (.k 1)) (.a (.v 1) (.k 1)) .o))) rfl h h1
theorem Jw {a b:Nat} (h:a*5<b*3):a<b:=xN [] [a,b] (.L 1 (.a (.r (.v 0) 5) (.k 1)) (.r (.v 1) 3) .o) 2 (.a (.v 0) (.k 1)) (.v 1) rfl h
theorem Uu {a b:Nat} (h:a*5<b*3):a≤b:=xN [] [a,b] (.L 1 (.a (.r (.v 0) 5) (.k 1)) (.r (.v 1) 3) .o) 2 (.v 0) (.v 1) rfl h
theorem Jv {a b:Nat} (h:a+1≤b∧b≤1534):a+1≤b∧b≤1540:=⟨xN [] [a,b] (.L 1 (.a (.v 0) (.k 1)) (.v 1) .o) 0 (.a (.v 0) (.k 1)) (.v 1) rfl h.1,xN [] [a,b] (.L 1 (.v 1) (.k 1534) .o) 0 (.v 1) (.k 1540) rfl h.2⟩
theorem Ut {a b:Nat} (h:a+1≤b) (h1:b≤a):False:=by grind
theorem Ju {a b:Nat} (h:a+1≤b):a+1<b+1:=xN [] [a,b] (.L 1 (.a (.v 0) (.k 1)) (.v 1) .o) 0 (.a (.a (.v 0) (.k 1)) (.k 1)) (.a (.v 1) (.k 1)) rfl h
theorem Jt {a b:Nat} (h:a+1≤b):a<b:=xN [] [a,b] (.L 1 (.a (.v 0) (.k 1)) (.v 1) .o) 0 (.a (.v 0) (.k 1)) (.v 1) rfl h
theorem Js {a b:Nat} (h:a+1≤b):a≤b:=xN [] [a,b] (.L 1 (.a (.v 0) (.k 1)) (.v 1) .o) 0 (.v 0) (.v 1) rfl h
theorem Us {a b:Nat} (h:a+1≤b):b-a=b-(a+1)+1:=Nat.le_antisymm (xN [] [a,b,(b-a),(b-(a+1))] (.E 1 (.a (.v 2) (.v 0)) (.v 1) (.E (-1) (.a (.v 3) (.a (.v 0) (.k 1))) (.v 1) .o)) 0 (.v 2) (.a (.v 3) (.k 1)) rfl (Nat.sub_add_cancel (xN [] [a,b,(b-a),(b-(a+1))] (.L 1 (.a (.v 0) (.k 1)) (.v 1) .o) 0 (.v 0) (.v 1) rfl h)) (Nat.sub_add_cancel (xN [] [a,b,(b-a),(b-(a+1))] (.L 1 (.a (.v 0) (.k 1)) (.v 1) .o) 0 (.a (.v 0) (.k 1)) (.v 1) rfl h))) (xN [] [a,b,(b-a),(b-(a+1))] (.E (-1) (.a (.v 2) (.v 0)) (.v 1) (.E 1 (.a (.v 3) (.a (.v 0) (.k 1))) (.v 1) .o)) 0 (.a (.v 3) (.k 1)) (.v 2) rfl (Nat.sub_add_cancel (xN [] [a,b,(b-a),(b-(a+1))] (.L 1 (.a (.v 0) (.k 1)) (.v 1) .o) 0 (.v 0) (.v 1) rfl h)) (Nat.sub_add_cancel (xN [] [a,b,(b-a),(b-(a+1))] (.L 1 (.a (.v 0) (.k 1)) (.v 1) .o) 0 (.a (.v 0) (.k 1)) (.v 1) rfl h)))
theorem Ur {a b:Nat} (h:a+6<b):a+3<b:=xN [] [a,b] (.L 1 (.a (.a (.v 0) (.k 6)) (.k 1)) (.v 1) .o) 0 (.a (.a (.v 0) (.k 3)) (.k 1)) (.v 1) rfl h
theorem Uq {a b:Nat} (h:a+9≤b):a≤a+9∧a+9≤b:=⟨xN [] [a,b] .o 0 (.v 0) (.a (.v 0) (.k 9)) rfl,xN [] [a,b] (.L 1 (.a (.v 0) (.k 9)) (.v 1) .o) 0 (.a (.v 0) (.k 9)) (.v 1) rfl h⟩
theorem Up {a b:Nat} (h:a-1<b): -(b:Int)≤ -1:=by grind
theorem Jr {a b:Nat} (h:a-b=0) (h1:b≤a):b=a:=Nat.le_antisymm (xN [] [a,b,(a-b)] (.E 1000 (.v 2) (.k 0) (.E 1 (.a (.v 2) (.v 1)) (.v 0) .o)) 0 (.v 1) (.v 0) rfl h (Nat.sub_add_cancel (xN [] [a,b,(a-b)] (.L 1 (.v 1) (.v 0) .o) 0 (.v 1) (.v 0) rfl h1))) (xN [] [a,b,(a-b)] (.E 1000 (.v 2) (.k 0) (.L 999 (.v 1) (.v 0) (.E (-1000) (.a (.v 2) (.v 1)) (.v 0) .o))) 0 (.v 0) (.v 1) rfl h h1 (Nat.sub_add_cancel (xN [] [a,b,(a-b)] (.L 1 (.v 1) (.v 0) .o) 0 (.v 1) (.v 0) rfl h1)))
theorem Fj {a b:Nat} (h:a<((b:Int)-0).toNat):a<b:=by grind
theorem Un {a b:Nat} (h:a<0):b=0:=by omega
theorem Um {a b:Nat} (h:a<10*b) (h1:b<1000):a<100000:=xN [] [a,b] (.L 1 (.a (.v 0) (.k 1)) (.m 10 (.v 1)) (.L 10 (.a (.v 1) (.k 1)) (.k 1000) .o)) 0 (.a (.v 0) (.k 1)) (.k 100000) rfl h h1
theorem Ul {a b:Nat} (h:a<11) (h1:b<10+a):b<20:=xN [] [a,b] (.L 1 (.a (.v 0) (.k 1)) (.k 11) (.L 1 (.a (.v 1) (.k 1)) (.a (.k 10) (.v 0)) .o)) 0 (.a (.v 1) (.k 1)) (.k 20) rfl h h1
theorem Jq {a b:Nat} (h:a<2) (h1:4096≤b):a≤b:=xN [] [a,b] (.L 1 (.a (.v 0) (.k 1)) (.k 2) (.L 1 (.k 4096) (.v 1) .o)) 0 (.v 0) (.v 1) rfl h h1
theorem Uk {a b:Nat} (h:a<2):a≤b+1:=xN [] [a,b] (.L 1 (.a (.v 0) (.k 1)) (.k 2) .o) 0 (.v 0) (.a (.v 1) (.k 1)) rfl h
theorem Uj {a b:Nat} (h:a<20) (h1:b≤2+a):b+1≤10000000:=xN [] [a,b] (.L 1 (.a (.v 0) (.k 1)) (.k 20) (.L 1 (.v 1) (.a (.k 2) (.v 0)) .o)) 0 (.a (.v 1) (.k 1)) (.k 10000000) rfl h h1
theorem Ui {a b:Nat} (h:a<20) (h1:b≤2+a):b≤10000000:=by grind
theorem Uh {a b:Nat} (h:a<20) (h1:b≤2+a):b≤39:=xN [] [a,b] (.L 1 (.a (.v 0) (.k 1)) (.k 20) (.L 1 (.v 1) (.a (.k 2) (.v 0)) .o)) 0 (.v 1) (.k 39) rfl h h1
theorem Ug {a b:Nat} (h:a<20) (h1:b≤a):b+1≤40:=xN [] [a,b] (.L 1 (.a (.v 0) (.k 1)) (.k 20) (.L 1 (.v 1) (.v 0) .o)) 0 (.a (.v 1) (.k 1)) (.k 40) rfl h h1
theorem Uf {a b:Nat} (h:a<3) (h1:b<1+a):b<3:=xN [] [a,b] (.L 1 (.a (.v 0) (.k 1)) (.k 3) (.L 1 (.a (.v 1) (.k 1)) (.a (.k 1) (.v 0)) .o)) 0 (.a (.v 1) (.k 1)) (.k 3) rfl h h1
theorem Uc {a b:Nat} (h:a<3) (h1:b=1+a):b≤3:=xN [] [a,b] (.L 1 (.a (.v 0) (.k 1)) (.k 3) (.E 1 (.v 1) (.a (.k 1) (.v 0)) .o)) 0 (.v 1) (.k 3) rfl h h1
theorem Ub {a b:Nat} (h:a<6) (h1:b<3+a):b<8:=xN [] [a,b] (.L 1 (.a (.v 0) (.k 1)) (.k 6) (.L 1 (.a (.v 1) (.k 1)) (.a (.k 3) (.v 0)) .o)) 0 (.a (.v 1) (.k 1)) (.k 8) rfl h h1
theorem Ua {a b:Nat} (h:a<6) (h1:b≤20+2*(3+a)):b+3≤40:=xN [] [a,b] (.L 2 (.a (.v 0) (.k 1)) (.k 6) (.L 1 (.v 1) (.a (.k 20) (.m 2 (.a (.k 3) (.v 0)))) .o)) 0 (.a (.v 1) (.k 3)) (.k 40) rfl h h1
theorem T9 {a b:Nat} (h:a<6) (h1:b≤20+2*(3+a)):b≤39:=xN [] [a,b] (.L 2 (.a (.v 0) (.k 1)) (.k 6) (.L 1 (.v 1) (.a (.k 20) (.m 2 (.a (.k 3) (.v 0)))) .o)) 0 (.v 1) (.k 39) rfl h h1
theorem T8 {a b:Nat} (h:a<6) (h1:b≤22+(3+a)):b+1≤31:=xN [] [a,b] (.L 1 (.a (.v 0) (.k 1)) (.k 6) (.L 1 (.v 1) (.a (.k 22) (.a (.k 3) (.v 0))) .o)) 0 (.a (.v 1) (.k 1)) (.k 31) rfl h h1
theorem T7 {a b:Nat} (h:a<6) (h1:b≤22+(3+a)):b≤31:=xN [] [a,b] (.L 1 (.a (.v 0) (.k 1)) (.k 6) (.L 1 (.v 1) (.a (.k 22) (.a (.k 3) (.v 0))) .o)) 0 (.v 1) (.k 31) rfl h h1
theorem T6 {a b:Nat} (h:a<6) (h1:b≤22+(3+a)):b≤39:=by grind
theorem T5 {a b:Nat} (h:a<64) (h1:b=a):b<64:=xN [] [a,b] (.L 1 (.a (.v 0) (.k 1)) (.k 64) (.E 1 (.v 1) (.v 0) .o)) 0 (.a (.v 1) (.k 1)) (.k 64) rfl h h1
theorem T4 {a b:Nat} (h:a<64) (h1:b=a):b≤16777216:=xN [] [a,b] (.L 1 (.a (.v 0) (.k 1)) (.k 64) (.E 1 (.v 1) (.v 0) .o)) 0 (.v 1) (.k 16777216) rfl h h1
theorem T3 {a b:Nat} (h:a<64) (h1:b=a):b≤76:=xN [] [a,b] (.L 1 (.a (.v 0) (.k 1)) (.k 64) (.E 1 (.v 1) (.v 0) .o)) 0 (.v 1) (.k 76) rfl h h1
theorem Jp {a b:Nat} (h:a<76) (h1:b=a):b<76:=xN [] [a,b] (.L 1 (.a (.v 0) (.k 1)) (.k 76) (.E 1 (.v 1) (.v 0) .o)) 0 (.a (.v 1) (.k 1)) (.k 76) rfl h h1
theorem T2 {a b:Nat} (h:a<8) (h1:b≤20+2*a):b+2≤40:=xN [] [a,b] (.L 2 (.a (.v 0) (.k 1)) (.k 8) (.L 1 (.v 1) (.a (.k 20) (.m 2 (.v 0))) .o)) 0 (.a (.v 1) (.k 2)) (.k 40) rfl h h1
theorem T1 {a b:Nat} (h:a<8) (h1:b≤22+a):b+1≤10000000:=xN [] [a,b] (.L 1 (.a (.v 0) (.k 1)) (.k 8) (.L 1 (.v 1) (.a (.k 22) (.v 0)) .o)) 0 (.a (.v 1) (.k 1)) (.k 10000000) rfl h h1
theorem T0 {a b:Nat} (h:a<8) (h1:b≤22+a):b≤39:=xN [] [a,b] (.L 1 (.a (.v 0) (.k 1)) (.k 8) (.L 1 (.v 1) (.a (.k 22) (.v 0)) .o)) 0 (.v 1) (.k 39) rfl h h1
theorem Fi {a b:Nat} (h:a<b+1) (h1:¬a<b):a=b:=Nat.le_antisymm (xN [] [a,b] (.L 1 (.a (.v 0) (.k 1)) (.a (.v 1) (.k 1)) .o) 0 (.v 0) (.v 1) rfl h) (xN [] [a,b] (.L 999 (.a (.v 0) (.k 1)) (.a (.v 1) (.k 1)) (.N 1000 (.a (.v 0) (.k 1)) (.v 1) .o)) 0 (.v 1) (.v 0) rfl h h1)
theorem uR {a b:Nat} (h:a<b+1) (h1:¬a=b):a<b:=(Nat.lt_or_gt_of_ne h1).elim (λ k1=>xN [] [a,b] (.L 1 (.a (.v 0) (.k 1)) (.v 1) .o) 0 (.a (.v 0) (.k 1)) (.v 1) rfl k1) (λ k2=>xN [] [a,b] (.L 1000 (.a (.v 0) (.k 1)) (.a (.v 1) (.k 1)) (.L 999 (.a (.v 1) (.k 1)) (.v 0) .o)) 0 (.a (.v 0) (.k 1)) (.v 1) rfl h k2)
theorem Tz {a b:Nat} (h:a<b+1):13+a≤b+13:=xN [] [a,b] (.L 1 (.a (.v 0) (.k 1)) (.a (.v 1) (.k 1)) .o) 0 (.a (.k 13) (.v 0)) (.a (.v 1) (.k 13)) rfl h
theorem Jo {a b:Nat} (h:a<b+1):a≤b:=xN [] [a,b] (.L 1 (.a (.v 0) (.k 1)) (.a (.v 1) (.k 1)) .o) 0 (.v 0) (.v 1) rfl h
theorem Ty {a b:Nat} (h:a<b) (h1:b=19) (h2:18<a):False:=xF [] [a,b] (.L 1 (.a (.v 0) (.k 1)) (.v 1) (.E 1 (.v 1) (.k 19) (.L 1 (.a (.k 18) (.k 1)) (.v 0) .o))) rfl h h1 h2
theorem Tx {a b:Nat} (h:a<b):(a+b)/2+1≤b:=by omega
theorem xY {a b:Nat} (h:a<b):(a:Int)≠(b:Int):=xF [] [a,b] (.L 1 (.a (.v 0) (.k 1)) (.v 1) (.e (-1) (.c (.v 0)) (.c (.v 1)) .o)) rfl h
theorem Tw {a b:Nat} (h:a<b):(b:Int)-1=((b-1:Nat):Int):=Int.le_antisymm (xZ [] [a,b,(b-1)] (.E (-1) (.a (.v 2) (.k 1)) (.v 1) .o) 0 (.s (.c (.v 1)) (.k 1)) (.c (.v 2)) rfl (Nat.sub_add_cancel (xN [] [a,b,(b-1)] (.L 1 (.a (.v 0) (.k 1)) (.v 1) .o) 0 (.k 1) (.v 1) rfl h))) (xZ [] [a,b,(b-1)] (.E 1 (.a (.v 2) (.k 1)) (.v 1) .o) 0 (.c (.v 2)) (.s (.c (.v 1)) (.k 1)) rfl (Nat.sub_add_cancel (xN [] [a,b,(b-1)] (.L 1 (.a (.v 0) (.k 1)) (.v 1) .o) 0 (.k 1) (.v 1) rfl h)))
theorem Tv {a b:Nat} (h:a<b):(min a b)=a:=by grind
theorem xX {a b:Nat} (h:a<b):0≤(a:Int)∧(a:Int)<(b:Int):=⟨xZ [] [a,b] .o 0 (.k 0) (.c (.v 0)) rfl,xZ [] [a,b] (.L 1 (.a (.v 0) (.k 1)) (.v 1) .o) 0 (.a (.c (.v 0)) (.k 1)) (.c (.v 1)) rfl h⟩
theorem Tu {a b:Nat} (h:a<b):0≤(a:Int)∧(a:Int)≤(b:Int):=⟨xZ [] [a,b] .o 0 (.k 0) (.c (.v 0)) rfl,xZ [] [a,b] (.L 1 (.a (.v 0) (.k 1)) (.v 1) .o) 0 (.c (.v 0)) (.c (.v 1)) rfl h⟩
theorem Tt {a b:Nat} (h:a<b):a+1+(b-(a+1))=b:=Nat.le_antisymm (xN [] [a,b,(b-(a+1))] (.E 1 (.a (.v 2) (.a (.v 0) (.k 1))) (.v 1) .o) 0 (.a (.a (.v 0) (.k 1)) (.v 2)) (.v 1) rfl (Nat.sub_add_cancel (xN [] [a,b,(b-(a+1))] (.L 1 (.a (.v 0) (.k 1)) (.v 1) .o) 0 (.a (.v 0) (.k 1)) (.v 1) rfl h))) (xN [] [a,b,(b-(a+1))] (.E (-1) (.a (.v 2) (.a (.v 0) (.k 1))) (.v 1) .o) 0 (.v 1) (.a (.a (.v 0) (.k 1)) (.v 2)) rfl (Nat.sub_add_cancel (xN [] [a,b,(b-(a+1))] (.L 1 (.a (.v 0) (.k 1)) (.v 1) .o) 0 (.a (.v 0) (.k 1)) (.v 1) rfl h)))
theorem Ts {a b:Nat} (h:a<b):a+1≤b:=xN [] [a,b] (.L 1 (.a (.v 0) (.k 1)) (.v 1) .o) 0 (.a (.v 0) (.k 1)) (.v 1) rfl h
theorem Tr {a b:Nat} (h:a<b):a≤(a+b)/2:=by grind
theorem Jn {a b:Nat} (h:a<b):b=b-1+1:=Nat.le_antisymm (xN [] [a,b,(b-1)] (.E (-1) (.a (.v 2) (.k 1)) (.v 1) .o) 0 (.v 1) (.a (.v 2) (.k 1)) rfl (Nat.sub_add_cancel (xN [] [a,b,(b-1)] (.L 1 (.a (.v 0) (.k 1)) (.v 1) .o) 0 (.k 1) (.v 1) rfl h))) (xN [] [a,b,(b-1)] (.E 1 (.a (.v 2) (.k 1)) (.v 1) .o) 0 (.a (.v 2) (.k 1)) (.v 1) rfl (Nat.sub_add_cancel (xN [] [a,b,(b-1)] (.L 1 (.a (.v 0) (.k 1)) (.v 1) .o) 0 (.k 1) (.v 1) rfl h)))
theorem Tq {a b:Nat} (h:a=b+1):0<a:=xN [] [a,b] (.E (-1) (.v 0) (.a (.v 1) (.k 1)) .o) 0 (.a (.k 0) (.k 1)) (.v 0) rfl h
theorem Tp {a b:Nat} (h:a=b+1):1≤a:=xN [] [a,b] (.E (-1) (.v 0) (.a (.v 1) (.k 1)) .o) 0 (.k 1) (.v 0) rfl h
theorem Tn {a b:Nat} (h:a=b+1):a-1<a:=xN [] [a,b,(a-1)] (.E 1 (.a (.v 2) (.k 1)) (.v 0) .o) 0 (.a (.v 2) (.k 1)) (.v 0) rfl (Nat.sub_add_cancel (xN [] [a,b,(a-1)] (.E (-1) (.v 0) (.a (.v 1) (.k 1)) .o) 0 (.k 1) (.v 0) rfl h))
theorem xW {a b:Nat} (h:a=b+1):a-1=b:=Nat.le_antisymm (xN [] [a,b,(a-1)] (.E 1 (.v 0) (.a (.v 1) (.k 1)) (.E 1 (.a (.v 2) (.k 1)) (.v 0) .o)) 0 (.v 2) (.v 1) rfl h (Nat.sub_add_cancel (xN [] [a,b,(a-1)] (.E (-1) (.v 0) (.a (.v 1) (.k 1)) .o) 0 (.k 1) (.v 0) rfl h))) (xN [] [a,b,(a-1)] (.E (-1) (.v 0) (.a (.v 1) (.k 1)) (.E (-1) (.a (.v 2) (.k 1)) (.v 0) .o)) 0 (.v 1) (.v 2) rfl h (Nat.sub_add_cancel (xN [] [a,b,(a-1)] (.E (-1) (.v 0) (.a (.v 1) (.k 1)) .o) 0 (.k 1) (.v 0) rfl h)))
theorem Tm {a b:Nat} (h:a=b+1):a>0:=xN [] [a,b] (.E (-1) (.v 0) (.a (.v 1) (.k 1)) .o) 0 (.a (.k 0) (.k 1)) (.v 0) rfl h
theorem Tl {a b:Nat} (h:a=b+1):a≤b+1:=xN [] [a,b] (.E 1 (.v 0) (.a (.v 1) (.k 1)) .o) 0 (.v 0) (.a (.v 1) (.k 1)) rfl h
theorem Jm {a b:Nat} (h:a=b+1):b≤a:=xN [] [a,b] (.E (-1) (.v 0) (.a (.v 1) (.k 1)) .o) 0 (.v 1) (.v 0) rfl h
theorem Tk {a b:Nat} (h:a=b) (h1:2≤b):1<a:=xN [] [a,b] (.E (-1) (.v 0) (.v 1) (.L 1 (.k 2) (.v 1) .o)) 0 (.a (.k 1) (.k 1)) (.v 0) rfl h h1
theorem Tj {a b:Nat} (h:a=b) (h1:a=0):b=0:=Nat.le_antisymm (xN [] [a,b] (.E (-1) (.v 0) (.v 1) (.E 1 (.v 0) (.k 0) .o)) 0 (.v 1) (.k 0) rfl h h1) (xN [] [a,b] (.E 1 (.v 0) (.v 1) (.E (-1) (.v 0) (.k 0) .o)) 0 (.k 0) (.v 1) rfl h h1)
theorem Ti {a b:Nat} (h:a=b) (h1:b<3):a≤100000:=xN [] [a,b] (.E 1 (.v 0) (.v 1) (.L 1 (.a (.v 1) (.k 1)) (.k 3) .o)) 0 (.v 0) (.k 100000) rfl h h1
theorem Tf {a b:Nat} (h:a=b) (h1:b<3):a≤10000000:=xN [] [a,b] (.E 1 (.v 0) (.v 1) (.L 1 (.a (.v 1) (.k 1)) (.k 3) .o)) 0 (.v 0) (.k 10000000) rfl h h1
theorem Te {a b:Nat} (h:a=b):(-1+(a:Int)).toNat=b-1:=by grind
theorem Td {a b:Nat} (h:a=b):(b:Int)=(a:Int):=Int.le_antisymm (xZ [] [a,b] (.E (-1) (.v 0) (.v 1) .o) 0 (.c (.v 1)) (.c (.v 0)) rfl h) (xZ [] [a,b] (.E 1 (.v 0) (.v 1) .o) 0 (.c (.v 0)) (.c (.v 1)) rfl h)
theorem Tc {a b:Nat} (h:a≠b):(a:Int)≠(b:Int):=by grind
theorem Tb {a b:Nat} (h:a≠b):¬(a:Int)=(b:Int):=by grind
theorem Jl {a b:Nat} (h:a≤100) (h1:b<a):b<2^63:=xN [] [a,b] (.L 1 (.v 0) (.k 100) (.L 1 (.a (.v 1) (.k 1)) (.v 0) .o)) 0 (.a (.v 1) (.k 1)) (.k (2^63)) rfl h h1
theorem Ta {a b:Nat} (h:a≤100) (h1:b=a):b≤10000000:=xN [] [a,b] (.L 1 (.v 0) (.k 100) (.E 1 (.v 1) (.v 0) .o)) 0 (.v 1) (.k 10000000) rfl h h1
theorem S9 {a b:Nat} (h:a≤100) (h1:b≤a+1):b≤1000:=xN [] [a,b] (.L 1 (.v 0) (.k 100) (.L 1 (.v 1) (.a (.v 0) (.k 1)) .o)) 0 (.v 1) (.k 1000) rfl h h1
theorem Jk {a b:Nat} (h:a≤1000) (h1:(b:Int)<(a:Int)):b<2^63:=xN [] [a,b] (.L 1 (.v 0) (.k 1000) (.l 1 (.a (.c (.v 1)) (.k 1)) (.c (.v 0)) .o)) 0 (.a (.v 1) (.k 1)) (.k (2^63)) rfl h h1
theorem uQ {a b:Nat} (h:a≤1000) (h1:b<a):b<2^63:=xN [] [a,b] (.L 1 (.v 0) (.k 1000) (.L 1 (.a (.v 1) (.k 1)) (.v 0) .o)) 0 (.a (.v 1) (.k 1)) (.k (2^63)) rfl h h1
theorem S8 {a b:Nat} (h:a≤1000) (h1:b=a+1):b≤10000000:=xN [] [a,b] (.L 1 (.v 0) (.k 1000) (.E 1 (.v 1) (.a (.v 0) (.k 1)) .o)) 0 (.v 1) (.k 10000000) rfl h h1
theorem B5 {a b:Nat} (h:a≤1000) (h1:b=a):b≤10000000:=xN [] [a,b] (.L 1 (.v 0) (.k 1000) (.E 1 (.v 1) (.v 0) .o)) 0 (.v 1) (.k 10000000) rfl h h1
theorem S7 {a b:Nat} (h:a≤1000) (h1:b≤1000):a+b≤10000000:=xN [] [a,b] (.L 1 (.v 0) (.k 1000) (.L 1 (.v 1) (.k 1000) .o)) 0 (.a (.v 0) (.v 1)) (.k 10000000) rfl h h1
theorem S6 {a b:Nat} (h:a≤1000):(min b a)≤1000:=xN [] [a,b,((min b a))] (.L 1 (.v 0) (.k 1000) (.L 1 (.v 2) (.v 0) .o)) 0 (.v 2) (.k 1000) rfl h (Nat.min_le_right ..)
theorem S5 {a b:Nat} (h:a≤100000) (h1:b<a):(b:Int)<2^63:=xZ [] [a,b] (.L 1 (.v 0) (.k 100000) (.L 1 (.a (.v 1) (.k 1)) (.v 0) .o)) 0 (.a (.c (.v 1)) (.k 1)) (.k (2^63)) rfl h h1
theorem S4 {a b:Nat} (h:a≤100000) (h1:b=a):b≤100000:=xN [] [a,b] (.L 1 (.v 0) (.k 100000) (.E 1 (.v 1) (.v 0) .o)) 0 (.v 1) (.k 100000) rfl h h1
theorem S3 {a b:Nat} (h:a≤100000) (h1:b=a):b≤16777216:=xN [] [a,b] (.L 1 (.v 0) (.k 100000) (.E 1 (.v 1) (.v 0) .o)) 0 (.v 1) (.k 16777216) rfl h h1
theorem S2 {a b:Nat} (h:a≤10000000) (h1:b=a+1):b≤16777216:=xN [] [a,b] (.L 1 (.v 0) (.k 10000000) (.E 1 (.v 1) (.a (.v 0) (.k 1)) .o)) 0 (.v 1) (.k 16777216) rfl h h1
theorem S1 {a b:Nat} (h:a≤10000000) (h1:b=a):(b:Int)<2^63:=xZ [] [a,b] (.L 1 (.v 0) (.k 10000000) (.E 1 (.v 1) (.v 0) .o)) 0 (.a (.c (.v 1)) (.k 1)) (.k (2^63)) rfl h h1
theorem Jj {a b:Nat} (h:a≤10000000) (h1:b=a):b≤16777216:=xN [] [a,b] (.L 1 (.v 0) (.k 10000000) (.E 1 (.v 1) (.v 0) .o)) 0 (.v 1) (.k 16777216) rfl h h1
theorem S0 {a b:Nat} (h:a≤20) (h1:b≤2+a):b≤22+0:=xN [] [a,b] (.L 1 (.v 0) (.k 20) (.L 1 (.v 1) (.a (.k 2) (.v 0)) .o)) 0 (.v 1) (.a (.k 22) (.k 0)) rfl h h1
theorem Ji {a b:Nat} (h:a≤31) (h1:b=a):b≤10000000:=xN [] [a,b] (.L 1 (.v 0) (.k 31) (.E 1 (.v 1) (.v 0) .o)) 0 (.v 1) (.k 10000000) rfl h h1
theorem Sz {a b:Nat} (h:a≤32) (h1:b=a):b≤100:=xN [] [a,b] (.L 1 (.v 0) (.k 32) (.E 1 (.v 1) (.v 0) .o)) 0 (.v 1) (.k 100) rfl h h1
theorem Jh {a b:Nat} (h:a≤32) (h1:b=a):b≤10000000:=xN [] [a,b] (.L 1 (.v 0) (.k 32) (.E 1 (.v 1) (.v 0) .o)) 0 (.v 1) (.k 10000000) rfl h h1
theorem B4 {a b:Nat} (h:a≤39) (h1:b=a):b≤1000:=xN [] [a,b] (.L 1 (.v 0) (.k 39) (.E 1 (.v 1) (.v 0) .o)) 0 (.v 1) (.k 1000) rfl h h1
theorem Fh {a b:Nat} (h:a≤39) (h1:b=a):b≤10000000:=xN [] [a,b] (.L 1 (.v 0) (.k 39) (.E 1 (.v 1) (.v 0) .o)) 0 (.v 1) (.k 10000000) rfl h h1
theorem Sy {a b:Nat} (h:a≤40) (h1:b<a):b<2^63:=xN [] [a,b] (.L 1 (.v 0) (.k 40) (.L 1 (.a (.v 1) (.k 1)) (.v 0) .o)) 0 (.a (.v 1) (.k 1)) (.k (2^63)) rfl h h1
theorem Sx {a b:Nat} (h:a≤40) (h1:b<a):b<40:=xN [] [a,b] (.L 1 (.v 0) (.k 40) (.L 1 (.a (.v 1) (.k 1)) (.v 0) .o)) 0 (.a (.v 1) (.k 1)) (.k 40) rfl h h1
theorem Sw {a b:Nat} (h:a≤40) (h1:b=a):b≤10000:=xN [] [a,b] (.L 1 (.v 0) (.k 40) (.E 1 (.v 1) (.v 0) .o)) 0 (.v 1) (.k 10000) rfl h h1
theorem Sv {a b:Nat} (h:a≤40) (h1:b=a):b≤10000000:=xN [] [a,b] (.L 1 (.v 0) (.k 40) (.E 1 (.v 1) (.v 0) .o)) 0 (.v 1) (.k 10000000) rfl h h1
theorem Ss {a b:Nat} (h:a≤40) (h1:b=a):b≤40:=xN [] [a,b] (.L 1 (.v 0) (.k 40) (.E 1 (.v 1) (.v 0) .o)) 0 (.v 1) (.k 40) rfl h h1
theorem Sr {a b:Nat} (h:a≤40) (h1:b≤61640):a+41*b≤3000000:=xN [] [a,b] (.L 1 (.v 0) (.k 40) (.L 41 (.v 1) (.k 61640) .o)) 0 (.a (.v 0) (.m 41 (.v 1))) (.k 3000000) rfl h h1
theorem Sq {a b:Nat} (h:a≤40) (h1:b≤a):b<64:=xN [] [a,b] (.L 1 (.v 0) (.k 40) (.L 1 (.v 1) (.v 0) .o)) 0 (.a (.v 1) (.k 1)) (.k 64) rfl h h1
theorem Fg {a b:Nat} (h:a≤40) (h1:b≤a):b≤10000000:=xN [] [a,b] (.L 1 (.v 0) (.k 40) (.L 1 (.v 1) (.v 0) .o)) 0 (.v 1) (.k 10000000) rfl h h1
theorem Sp {a b:Nat} (h:a≤40) (h1:b≤a):b≤40:=xN [] [a,b] (.L 1 (.v 0) (.k 40) (.L 1 (.v 1) (.v 0) .o)) 0 (.v 1) (.k 40) rfl h h1
theorem So {a b:Nat} (h:a≤50) (h1:b<3):a+1+2*b+1≤1000:=xN [] [a,b] (.L 1 (.v 0) (.k 50) (.L 2 (.a (.v 1) (.k 1)) (.k 3) .o)) 0 (.a (.a (.a (.v 0) (.k 1)) (.m 2 (.v 1))) (.k 1)) (.k 1000) rfl h h1
theorem Sn {a b:Nat} (h:a≤50) (h1:b<3):a+1+2*b≤1000:=xN [] [a,b] (.L 1 (.v 0) (.k 50) (.L 2 (.a (.v 1) (.k 1)) (.k 3) .o)) 0 (.a (.a (.v 0) (.k 1)) (.m 2 (.v 1))) (.k 1000) rfl h h1
theorem Sm {a b:Nat} (h:a≤b+1):a≤b+1:=by omega
theorem Sl {a b:Nat} (h:a≤b+13):a<b+15:=xN [] [a,b] (.L 1 (.v 0) (.a (.v 1) (.k 13)) .o) 0 (.a (.v 0) (.k 1)) (.a (.v 1) (.k 15)) rfl h
theorem Sk {a b:Nat} (h:a≤b-1) (h1:0<b):a+1≤b:=xN [] [a,b,(b-1)] (.L 1 (.v 0) (.v 2) (.E 1 (.a (.v 2) (.k 1)) (.v 1) .o)) 0 (.a (.v 0) (.k 1)) (.v 1) rfl h (Nat.sub_add_cancel (xN [] [a,b,(b-1)] (.L 1 (.a (.k 0) (.k 1)) (.v 1) .o) 0 (.k 1) (.v 1) rfl h1))
theorem Sj {a b:Nat} (h:a≤b) (h1:a≠b):a+1≤b:=by grind
theorem Si {a b:Nat} (h:a≤b) (h1:b-a≤0):a=b:=Nat.le_antisymm (xN [] [a,b,(b-a)] (.L 1000 (.v 2) (.k 0) (.E 1 (.a (.v 2) (.v 0)) (.v 1) .o)) 0 (.v 0) (.v 1) rfl h1 (Nat.sub_add_cancel (xN [] [a,b,(b-a)] (.L 1 (.v 0) (.v 1) .o) 0 (.v 0) (.v 1) rfl h))) (xN [] [a,b,(b-a)] (.L 999 (.v 0) (.v 1) (.L 1000 (.v 2) (.k 0) (.E (-1000) (.a (.v 2) (.v 0)) (.v 1) .o))) 0 (.v 1) (.v 0) rfl h h1 (Nat.sub_add_cancel (xN [] [a,b,(b-a)] (.L 1 (.v 0) (.v 1) .o) 0 (.v 0) (.v 1) rfl h)))
theorem Sh {a b:Nat} (h:a≤b) (h1:b≠a):a<b:=(Nat.lt_or_gt_of_ne h1).elim (λ k1=>xN [] [a,b] (.L 1000 (.v 0) (.v 1) (.L 999 (.a (.v 1) (.k 1)) (.v 0) .o)) 0 (.a (.v 0) (.k 1)) (.v 1) rfl h k1) (λ k2=>xN [] [a,b] (.L 1 (.a (.v 0) (.k 1)) (.v 1) .o) 0 (.a (.v 0) (.k 1)) (.v 1) rfl k2)
theorem Sg {a b:Nat} (h:a≤b) (h1:b≤1540):a+1≤1541:=xN [] [a,b] (.L 1 (.v 0) (.v 1) (.L 1 (.v 1) (.k 1540) .o)) 0 (.a (.v 0) (.k 1)) (.k 1541) rfl h h1
theorem Sf {a b:Nat} (h:a≤b) (h1:b≤1540):a≤1540:=xN [] [a,b] (.L 1 (.v 0) (.v 1) (.L 1 (.v 1) (.k 1540) .o)) 0 (.v 0) (.k 1540) rfl h h1
theorem Se {a b:Nat} (h:a≤b) (h1:b≤1540):a≤1541:=xN [] [a,b] (.L 1 (.v 0) (.v 1) (.L 1 (.v 1) (.k 1540) .o)) 0 (.v 0) (.k 1541) rfl h h1
theorem Sd {a b:Nat} (h:a≤b) (h1:b≤40):a≤1000000:=xN [] [a,b] (.L 1 (.v 0) (.v 1) (.L 1 (.v 1) (.k 40) .o)) 0 (.v 0) (.k 1000000) rfl h h1
theorem Sc {a b:Nat} (h:a≤b) (h1:b≤40):a≤10000000:=xN [] [a,b] (.L 1 (.v 0) (.v 1) (.L 1 (.v 1) (.k 40) .o)) 0 (.v 0) (.k 10000000) rfl h h1
theorem Sb {a b:Nat} (h:a≤b) (h1:¬a<b):a=b:=by grind
theorem Sa {a b:Nat} (h:a≤b):0+a≤b+1:=xN [] [a,b] (.L 1 (.v 0) (.v 1) .o) 0 (.a (.k 0) (.v 0)) (.a (.v 1) (.k 1)) rfl h
theorem R9 {a b:Nat} (h:a≤b):a+(b-a)=b:=Nat.le_antisymm (xN [] [a,b,(b-a)] (.E 1 (.a (.v 2) (.v 0)) (.v 1) .o) 0 (.a (.v 0) (.v 2)) (.v 1) rfl (Nat.sub_add_cancel (xN [] [a,b,(b-a)] (.L 1 (.v 0) (.v 1) .o) 0 (.v 0) (.v 1) rfl h))) (xN [] [a,b,(b-a)] (.E (-1) (.a (.v 2) (.v 0)) (.v 1) .o) 0 (.v 1) (.a (.v 0) (.v 2)) rfl (Nat.sub_add_cancel (xN [] [a,b,(b-a)] (.L 1 (.v 0) (.v 1) .o) 0 (.v 0) (.v 1) rfl h)))
theorem R8 {a b:Nat} (h:a≤b):a≤a∧a≤b:=⟨xN [] [a,b] .o 0 (.v 0) (.v 0) rfl,xN [] [a,b] (.L 1 (.v 0) (.v 1) .o) 0 (.v 0) (.v 1) rfl h⟩
theorem R7 {a b:Nat} (h:¬((63:Nat):Int)<(a:Int)) (h1:b=a):b≤63:=xN [] [a,b] (.n 1 (.a (.c (.k 63)) (.k 1)) (.c (.v 0)) (.E 1 (.v 1) (.v 0) .o)) 0 (.v 1) (.k 63) rfl h h1
theorem Jg {a b:Nat} (h:¬(a:Int)<(b:Int)):b≤a:=xN [] [a,b] (.n 1 (.a (.c (.v 0)) (.k 1)) (.c (.v 1)) .o) 0 (.v 1) (.v 0) rfl h
theorem R6 {a b:Nat} (h:¬(a:Int)>(b:Int)):a≤b:=xN [] [a,b] (.n 1 (.a (.c (.v 1)) (.k 1)) (.c (.v 0)) .o) 0 (.v 0) (.v 1) rfl h
theorem R5 {a b:Nat} (h:¬a+1<b+1):¬(a:Int)+1<((b+1:Nat):Int):=xF [] [a,b] (.N 1 (.a (.a (.v 0) (.k 1)) (.k 1)) (.a (.v 1) (.k 1)) (.l 1 (.a (.a (.c (.v 0)) (.k 1)) (.k 1)) (.c (.a (.v 1) (.k 1))) .o)) rfl h
theorem R4 {a b:Nat} (h:¬a+1<b):¬((a+1:Nat):Int)<(b:Int):=xF [] [a,b] (.N 1 (.a (.a (.v 0) (.k 1)) (.k 1)) (.v 1) (.l 1 (.a (.c (.a (.v 0) (.k 1))) (.k 1)) (.c (.v 1)) .o)) rfl h
theorem R3 {a b:Nat} (h:¬a<b) (h1:¬a=b):a-b=a-1-b+1:=(Nat.lt_or_gt_of_ne h1).elim (λ k1=>Nat.le_antisymm (xN [] [a,b,(a-b),(a-1),((a-1)-b)] (.L 1000 (.a (.v 0) (.k 1)) (.v 1) (.E 1 (.a (.v 2) (.v 1)) (.v 0) (.E 999 (.a (.v 3) (.k 1)) (.v 0) (.E 999 (.a (.v 4) (.v 1)) (.v 3) .o)))) 0 (.v 2) (.a (.v 4) (.k 1)) rfl k1 (Nat.sub_add_cancel (xN [] [a,b,(a-b),(a-1),((a-1)-b)] (.N 1000 (.a (.v 0) (.k 1)) (.v 1) (.L 999 (.a (.v 0) (.k 1)) (.v 1) .o)) 0 (.v 1) (.v 0) rfl h k1)) (Nat.sub_add_cancel (xN [] [a,b,(a-b),(a-1),((a-1)-b)] (.N 1 (.a (.v 0) (.k 1)) (.v 1) (.L 1000 (.a (.v 0) (.k 1)) (.v 1) (.E 1000 (.a (.v 2) (.v 1)) (.v 0) .o))) 0 (.k 1) (.v 0) rfl h k1 (Nat.sub_add_cancel (xN [] [a,b,(a-b),(a-1),((a-1)-b)] (.N 1000 (.a (.v 0) (.k 1)) (.v 1) (.L 999 (.a (.v 0) (.k 1)) (.v 1) .o)) 0 (.v 1) (.v 0) rfl h k1)))) (Nat.sub_add_cancel (xN [] [a,b,(a-b),(a-1),((a-1)-b)] (.N 1 (.a (.v 0) (.k 1)) (.v 1) (.L 1000 (.a (.v 0) (.k 1)) (.v 1) (.E 1000 (.a (.v 2) (.v 1)) (.v 0) (.E (-1) (.a (.v 3) (.k 1)) (.v 0) .o)))) 0 (.v 1) (.v 3) rfl h k1 (Nat.sub_add_cancel (xN [] [a,b,(a-b),(a-1),((a-1)-b)] (.N 1000 (.a (.v 0) (.k 1)) (.v 1) (.L 999 (.a (.v 0) (.k 1)) (.v 1) .o)) 0 (.v 1) (.v 0) rfl h k1)) (Nat.sub_add_cancel (xN [] [a,b,(a-b),(a-1),((a-1)-b)] (.N 1 (.a (.v 0) (.k 1)) (.v 1) (.L 1000 (.a (.v 0) (.k 1)) (.v 1) (.E 1000 (.a (.v 2) (.v 1)) (.v 0) .o))) 0 (.k 1) (.v 0) rfl h k1 (Nat.sub_add_cancel (xN [] [a,b,(a-b),(a-1),((a-1)-b)] (.N 1000 (.a (.v 0) (.k 1)) (.v 1) (.L 999 (.a (.v 0) (.k 1)) (.v 1) .o)) 0 (.v 1) (.v 0) rfl h k1))))))) (xN [] [a,b,(a-b),(a-1),((a-1)-b)] (.L 1000 (.a (.v 0) (.k 1)) (.v 1) (.E 1000 (.a (.v 3) (.k 1)) (.v 0) (.E 1000 (.a (.v 4) (.v 1)) (.v 3) .o))) 0 (.a (.v 4) (.k 1)) (.v 2) rfl k1 (Nat.sub_add_cancel (xN [] [a,b,(a-b),(a-1),((a-1)-b)] (.N 1 (.a (.v 0) (.k 1)) (.v 1) (.L 1000 (.a (.v 0) (.k 1)) (.v 1) (.E 1000 (.a (.v 2) (.v 1)) (.v 0) .o))) 0 (.k 1) (.v 0) rfl h k1 (Nat.sub_add_cancel (xN [] [a,b,(a-b),(a-1),((a-1)-b)] (.N 1000 (.a (.v 0) (.k 1)) (.v 1) (.L 999 (.a (.v 0) (.k 1)) (.v 1) .o)) 0 (.v 1) (.v 0) rfl h k1)))) (Nat.sub_add_cancel (xN [] [a,b,(a-b),(a-1),((a-1)-b)] (.N 1 (.a (.v 0) (.k 1)) (.v 1) (.L 1000 (.a (.v 0) (.k 1)) (.v 1) (.E 1000 (.a (.v 2) (.v 1)) (.v 0) (.E (-1) (.a (.v 3) (.k 1)) (.v 0) .o)))) 0 (.v 1) (.v 3) rfl h k1 (Nat.sub_add_cancel (xN [] [a,b,(a-b),(a-1),((a-1)-b)] (.N 1000 (.a (.v 0) (.k 1)) (.v 1) (.L 999 (.a (.v 0) (.k 1)) (.v 1) .o)) 0 (.v 1) (.v 0) rfl h k1)) (Nat.sub_add_cancel (xN [] [a,b,(a-b),(a-1),((a-1)-b)] (.N 1 (.a (.v 0) (.k 1)) (.v 1) (.L 1000 (.a (.v 0) (.k 1)) (.v 1) (.E 1000 (.a (.v 2) (.v 1)) (.v 0) .o))) 0 (.k 1) (.v 0) rfl h k1 (Nat.sub_add_cancel (xN [] [a,b,(a-b),(a-1),((a-1)-b)] (.N 1000 (.a (.v 0) (.k 1)) (.v 1) (.L 999 (.a (.v 0) (.k 1)) (.v 1) .o)) 0 (.v 1) (.v 0) rfl h k1)))))))) (λ k2=>Nat.le_antisymm (xN [] [a,b,(a-b),(a-1),((a-1)-b)] (.E 1 (.a (.v 2) (.v 1)) (.v 0) (.E (-1) (.a (.v 3) (.k 1)) (.v 0) (.E (-1) (.a (.v 4) (.v 1)) (.v 3) .o))) 0 (.v 2) (.a (.v 4) (.k 1)) rfl (Nat.sub_add_cancel (xN [] [a,b,(a-b),(a-1),((a-1)-b)] (.L 1 (.a (.v 1) (.k 1)) (.v 0) .o) 0 (.v 1) (.v 0) rfl k2)) (Nat.sub_add_cancel (xN [] [a,b,(a-b),(a-1),((a-1)-b)] (.L 1 (.a (.v 1) (.k 1)) (.v 0) .o) 0 (.k 1) (.v 0) rfl k2)) (Nat.sub_add_cancel (xN [] [a,b,(a-b),(a-1),((a-1)-b)] (.L 1 (.a (.v 1) (.k 1)) (.v 0) (.E (-1) (.a (.v 3) (.k 1)) (.v 0) .o)) 0 (.v 1) (.v 3) rfl k2 (Nat.sub_add_cancel (xN [] [a,b,(a-b),(a-1),((a-1)-b)] (.L 1 (.a (.v 1) (.k 1)) (.v 0) .o) 0 (.k 1) (.v 0) rfl k2))))) (xN [] [a,b,(a-b),(a-1),((a-1)-b)] (.E (-1) (.a (.v 2) (.v 1)) (.v 0) (.E 1 (.a (.v 3) (.k 1)) (.v 0) (.E 1 (.a (.v 4) (.v 1)) (.v 3) .o))) 0 (.a (.v 4) (.k 1)) (.v 2) rfl (Nat.sub_add_cancel (xN [] [a,b,(a-b),(a-1),((a-1)-b)] (.L 1 (.a (.v 1) (.k 1)) (.v 0) .o) 0 (.v 1) (.v 0) rfl k2)) (Nat.sub_add_cancel (xN [] [a,b,(a-b),(a-1),((a-1)-b)] (.L 1 (.a (.v 1) (.k 1)) (.v 0) .o) 0 (.k 1) (.v 0) rfl k2)) (Nat.sub_add_cancel (xN [] [a,b,(a-b),(a-1),((a-1)-b)] (.L 1 (.a (.v 1) (.k 1)) (.v 0) (.E (-1) (.a (.v 3) (.k 1)) (.v 0) .o)) 0 (.v 1) (.v 3) rfl k2 (Nat.sub_add_cancel (xN [] [a,b,(a-b),(a-1),((a-1)-b)] (.L 1 (.a (.v 1) (.k 1)) (.v 0) .o) 0 (.k 1) (.v 0) rfl k2))))))
theorem R2 {a b:Nat} (h:¬a<b) (h1:¬a=b):b+(a-1-b)=a-1:=(Nat.lt_or_gt_of_ne h1).elim (λ k1=>Nat.le_antisymm (xN [] [a,b,(a-1),((a-1)-b)] (.N 1 (.a (.v 0) (.k 1)) (.v 1) (.L 1000 (.a (.v 0) (.k 1)) (.v 1) (.E 999 (.a (.v 2) (.k 1)) (.v 0) (.E 1000 (.a (.v 3) (.v 1)) (.v 2) .o)))) 0 (.a (.v 1) (.v 3)) (.v 2) rfl h k1 (Nat.sub_add_cancel (xN [] [a,b,(a-1),((a-1)-b)] (.N 1000 (.a (.v 0) (.k 1)) (.v 1) (.L 1000 (.a (.v 0) (.k 1)) (.v 1) .o)) 0 (.k 1) (.v 0) rfl h k1)) (Nat.sub_add_cancel (xN [] [a,b,(a-1),((a-1)-b)] (.N 1000 (.a (.v 0) (.k 1)) (.v 1) (.L 999 (.a (.v 0) (.k 1)) (.v 1) (.E (-1) (.a (.v 2) (.k 1)) (.v 0) .o))) 0 (.v 1) (.v 2) rfl h k1 (Nat.sub_add_cancel (xN [] [a,b,(a-1),((a-1)-b)] (.N 1000 (.a (.v 0) (.k 1)) (.v 1) (.L 1000 (.a (.v 0) (.k 1)) (.v 1) .o)) 0 (.k 1) (.v 0) rfl h k1))))) (xN [] [a,b,(a-1),((a-1)-b)] (.L 1000 (.a (.v 0) (.k 1)) (.v 1) (.E 1000 (.a (.v 2) (.k 1)) (.v 0) (.E 999 (.a (.v 3) (.v 1)) (.v 2) .o))) 0 (.v 2) (.a (.v 1) (.v 3)) rfl k1 (Nat.sub_add_cancel (xN [] [a,b,(a-1),((a-1)-b)] (.N 1000 (.a (.v 0) (.k 1)) (.v 1) (.L 1000 (.a (.v 0) (.k 1)) (.v 1) .o)) 0 (.k 1) (.v 0) rfl h k1)) (Nat.sub_add_cancel (xN [] [a,b,(a-1),((a-1)-b)] (.N 1000 (.a (.v 0) (.k 1)) (.v 1) (.L 999 (.a (.v 0) (.k 1)) (.v 1) (.E (-1) (.a (.v 2) (.k 1)) (.v 0) .o))) 0 (.v 1) (.v 2) rfl h k1 (Nat.sub_add_cancel (xN [] [a,b,(a-1),((a-1)-b)] (.N 1000 (.a (.v 0) (.k 1)) (.v 1) (.L 1000 (.a (.v 0) (.k 1)) (.v 1) .o)) 0 (.k 1) (.v 0) rfl h k1)))))) (λ k2=>Nat.le_antisymm (xN [] [a,b,(a-1),((a-1)-b)] (.E 1 (.a (.v 3) (.v 1)) (.v 2) .o) 0 (.a (.v 1) (.v 3)) (.v 2) rfl (Nat.sub_add_cancel (xN [] [a,b,(a-1),((a-1)-b)] (.L 1 (.a (.v 1) (.k 1)) (.v 0) (.E (-1) (.a (.v 2) (.k 1)) (.v 0) .o)) 0 (.v 1) (.v 2) rfl k2 (Nat.sub_add_cancel (xN [] [a,b,(a-1),((a-1)-b)] (.L 1 (.a (.v 1) (.k 1)) (.v 0) .o) 0 (.k 1) (.v 0) rfl k2))))) (xN [] [a,b,(a-1),((a-1)-b)] (.E (-1) (.a (.v 3) (.v 1)) (.v 2) .o) 0 (.v 2) (.a (.v 1) (.v 3)) rfl (Nat.sub_add_cancel (xN [] [a,b,(a-1),((a-1)-b)] (.L 1 (.a (.v 1) (.k 1)) (.v 0) (.E (-1) (.a (.v 2) (.k 1)) (.v 0) .o)) 0 (.v 1) (.v 2) rfl k2 (Nat.sub_add_cancel (xN [] [a,b,(a-1),((a-1)-b)] (.L 1 (.a (.v 1) (.k 1)) (.v 0) .o) 0 (.k 1) (.v 0) rfl k2))))))
theorem R1 {a b:Nat} (h:¬a<b) (h1:¬a=b):b≤a-1:=(Nat.lt_or_gt_of_ne h1).elim (λ k1=>xN [] [a,b,(a-1)] (.N 1000 (.a (.v 0) (.k 1)) (.v 1) (.L 999 (.a (.v 0) (.k 1)) (.v 1) (.E (-1) (.a (.v 2) (.k 1)) (.v 0) .o))) 0 (.v 1) (.v 2) rfl h k1 (Nat.sub_add_cancel (xN [] [a,b,(a-1)] (.N 1000 (.a (.v 0) (.k 1)) (.v 1) (.L 1000 (.a (.v 0) (.k 1)) (.v 1) .o)) 0 (.k 1) (.v 0) rfl h k1))) (λ k2=>xN [] [a,b,(a-1)] (.L 1 (.a (.v 1) (.k 1)) (.v 0) (.E (-1) (.a (.v 2) (.k 1)) (.v 0) .o)) 0 (.v 1) (.v 2) rfl k2 (Nat.sub_add_cancel (xN [] [a,b,(a-1)] (.L 1 (.a (.v 1) (.k 1)) (.v 0) .o) 0 (.k 1) (.v 0) rfl k2)))
theorem Ff {a b:Nat} (h:¬a<b):b≤a:=xN [] [a,b] (.N 1 (.a (.v 0) (.k 1)) (.v 1) .o) 0 (.v 1) (.v 0) rfl h
theorem R0 {a b:Nat} (h:¬a<b):¬(0≤(a:Int)∧(a:Int)<(b:Int)):=by omega
theorem Rz {a b:Nat} (h:¬a<b):¬(a:Int)<(b:Int):=xF [] [a,b] (.N 1 (.a (.v 0) (.k 1)) (.v 1) (.l 1 (.a (.c (.v 0)) (.k 1)) (.c (.v 1)) .o)) rfl h
theorem Fe {a b:Nat} (h:¬a=b):(a:Int)≠(b:Int):=(Nat.lt_or_gt_of_ne h).elim (λ k1=>xF [] [a,b] (.L 1 (.a (.v 0) (.k 1)) (.v 1) (.e (-1) (.c (.v 0)) (.c (.v 1)) .o)) rfl k1) (λ k2=>xF [] [a,b] (.L 1 (.a (.v 1) (.k 1)) (.v 0) (.e 1 (.c (.v 0)) (.c (.v 1)) .o)) rfl k2)
theorem Ry {a b:Nat} (h:¬a=b):(min a b)<(max a b):=(Nat.lt_or_gt_of_ne h).elim (λ k1=>xN [] [a,b,((min a b)),((max a b))] (.L 1 (.a (.v 0) (.k 1)) (.v 1) (.L 1 (.v 2) (.v 0) (.L 1 (.v 1) (.v 3) .o))) 0 (.a (.v 2) (.k 1)) (.v 3) rfl k1 (Nat.min_le_left ..) (Nat.le_max_right ..)) (λ k2=>xN [] [a,b,((min a b)),((max a b))] (.L 1 (.a (.v 1) (.k 1)) (.v 0) (.L 1 (.v 2) (.v 1) (.L 1 (.v 0) (.v 3) .o))) 0 (.a (.v 2) (.k 1)) (.v 3) rfl k2 (Nat.min_le_right ..) (Nat.le_max_left ..))
theorem Rx {a b:Nat} (h:¬a=b):¬b=a:=(Nat.lt_or_gt_of_ne h).elim (λ k1=>xF [] [a,b] (.L 1 (.a (.v 0) (.k 1)) (.v 1) (.E 1 (.v 1) (.v 0) .o)) rfl k1) (λ k2=>xF [] [a,b] (.L 1 (.a (.v 1) (.k 1)) (.v 0) (.E (-1) (.v 1) (.v 0) .o)) rfl k2)
theorem Jf {a b:Nat} (h:¬a≤b):b≤a:=xN [] [a,b] (.N 1 (.v 0) (.v 1) .o) 0 (.v 1) (.v 0) rfl h
theorem Rw {a b:Nat}:((a+(b+1):Nat):Int)=((a+1+b:Nat):Int):=Int.le_antisymm (xZ [] [a,b] .o 0 (.c (.a (.v 0) (.a (.v 1) (.k 1)))) (.c (.a (.a (.v 0) (.k 1)) (.v 1))) rfl) (xZ [] [a,b] .o 0 (.c (.a (.a (.v 0) (.k 1)) (.v 1))) (.c (.a (.v 0) (.a (.v 1) (.k 1)))) rfl)
theorem Ru {a b:Nat}:(a:Int)+(b:Int)=((a+b:Nat):Int):=Int.le_antisymm (xZ [] [a,b] .o 0 (.a (.c (.v 0)) (.c (.v 1))) (.c (.a (.v 0) (.v 1))) rfl) (xZ [] [a,b] .o 0 (.c (.a (.v 0) (.v 1))) (.a (.c (.v 0)) (.c (.v 1))) rfl)
theorem Rt {a b:Nat}:(min a b)≤a:=xN [] [a,b,((min a b))] (.L 1 (.v 2) (.v 0) .o) 0 (.v 2) (.v 0) rfl (Nat.min_le_left ..)
theorem Rs {a b:Nat}:a+(b+1)=a+1+b:=Nat.le_antisymm (xN [] [a,b] .o 0 (.a (.v 0) (.a (.v 1) (.k 1))) (.a (.a (.v 0) (.k 1)) (.v 1)) rfl) (xN [] [a,b] .o 0 (.a (.a (.v 0) (.k 1)) (.v 1)) (.a (.v 0) (.a (.v 1) (.k 1))) rfl)
theorem Je {a b:Nat}:a+1+b=a+(b+1):=Nat.le_antisymm (xN [] [a,b] .o 0 (.a (.a (.v 0) (.k 1)) (.v 1)) (.a (.v 0) (.a (.v 1) (.k 1))) rfl) (xN [] [a,b] .o 0 (.a (.v 0) (.a (.v 1) (.k 1))) (.a (.a (.v 0) (.k 1)) (.v 1)) rfl)
theorem Fd {a b:Nat}:a+1+b=a+b+1:=by grind
theorem Rr {a b:Nat}:a+41*b=a-0+41*b:=by grind
theorem Rq {a b:Nat} {c:Int} (h:(a:Int)+(b:Int)+41*c≤70000) (h1:0≤c):a≤10000000:=xN [c] [a,b] (.l 1 (.a (.a (.c (.v 0)) (.c (.v 1))) (.m 41 (.v 0))) (.k 70000) (.l 41 (.k 0) (.v 0) .o)) 0 (.v 0) (.k 10000000) rfl h h1
theorem Rp {a b:Nat} {c:Int} (h:(a:Int)+(b:Int)+41*c≤70000) (h1:0≤c):b≤10000000:=xN [c] [a,b] (.l 1 (.a (.a (.c (.v 0)) (.c (.v 1))) (.m 41 (.v 0))) (.k 70000) (.l 41 (.k 0) (.v 0) .o)) 0 (.v 1) (.k 10000000) rfl h h1
theorem Ro {a b:Nat} {c:Int} (h:a<b+1) (h1:c.toNat<a):c.toNat<b:=xN [c] [a,b,(c.toNat)] (.L 1 (.a (.v 0) (.k 1)) (.a (.v 1) (.k 1)) (.L 1 (.a (.v 2) (.k 1)) (.v 0) .o)) 0 (.a (.v 2) (.k 1)) (.v 1) rfl h h1
theorem Jd {a b:Nat} {c:Int} (h:a<b) (h1:0≤c∧c<(a:Int)):c.toNat<b:=xN [c] [a,b,(c.toNat)] (.L 1 (.a (.v 0) (.k 1)) (.v 1) (.l 1 (.a (.v 0) (.k 1)) (.c (.v 0)) (.e 1 (.c (.v 2)) (.v 0) .o))) 0 (.a (.v 2) (.k 1)) (.v 1) rfl h h1.2 (Int.toNat_of_nonneg (xZ [c] [a,b,(c.toNat)] (.l 1 (.k 0) (.v 0) .o) 0 (.k 0) (.v 0) rfl h1.1))
theorem Rn {a b:Nat} {c:Int} (h:a<b) (h1:c<(a:Int)):c<(b:Int):=xZ [c] [a,b] (.L 1 (.a (.v 0) (.k 1)) (.v 1) (.l 1 (.a (.v 0) (.k 1)) (.c (.v 0)) .o)) 0 (.a (.v 0) (.k 1)) (.c (.v 1)) rfl h h1
theorem Rm {a b:Nat} {c:Int} (h:a<b) (h1:c≤(a:Int)):c.toNat<b:=by omega
theorem Rl {a b:Nat} {c:Int} (h:a=b) (h1:0≤c) (h2:c<(b:Int)):c.toNat<a:=xN [c] [a,b,(c.toNat)] (.E (-1) (.v 0) (.v 1) (.l 1 (.a (.v 0) (.k 1)) (.c (.v 1)) (.e 1 (.c (.v 2)) (.v 0) .o))) 0 (.a (.v 2) (.k 1)) (.v 0) rfl h h2 (Int.toNat_of_nonneg (xZ [c] [a,b,(c.toNat)] (.l 1 (.k 0) (.v 0) .o) 0 (.k 0) (.v 0) rfl h1))
theorem Jc {a b:Nat} {c:Int} (h:a=b) (h1:c<(b:Int)):c<(a:Int):=xZ [c] [a,b] (.E (-1) (.v 0) (.v 1) (.l 1 (.a (.v 0) (.k 1)) (.c (.v 1)) .o)) 0 (.a (.v 0) (.k 1)) (.c (.v 0)) rfl h h1
theorem Rk {a b:Nat} {c d:Int} (h:a<b) (h1:c=d-(b:Int)+(a:Int)):c+1≤d:=xZ [c,d] [a,b] (.L 1 (.a (.v 0) (.k 1)) (.v 1) (.e 1 (.v 0) (.a (.s (.v 1) (.c (.v 1))) (.c (.v 0))) .o)) 0 (.a (.v 0) (.k 1)) (.v 1) rfl h h1
theorem Rj {a b c:Int} (h:1≤a∧a≤511) (h1:1≤b∧b≤511) (h2:1≤c∧c≤511):1≤1+(a+(b+(c+0)))∧1+(a+(b+(c+0)))≤1534:=⟨xZ [a,b,c] [] (.l 1 (.k 1) (.v 0) (.l 1 (.k 1) (.v 1) (.l 1 (.k 1) (.v 2) .o))) 0 (.k 1) (.a (.k 1) (.a (.v 0) (.a (.v 1) (.a (.v 2) (.k 0))))) rfl h.1 h1.1 h2.1,xZ [a,b,c] [] (.l 1 (.v 0) (.k 511) (.l 1 (.v 1) (.k 511) (.l 1 (.v 2) (.k 511) .o))) 0 (.a (.k 1) (.a (.v 0) (.a (.v 1) (.a (.v 2) (.k 0))))) (.k 1534) rfl h.2 h1.2 h2.2⟩
theorem Ri {a b c:Int}:a+b=c+b-c+a:=Int.le_antisymm (xZ [a,b,c] [] .o 0 (.a (.v 0) (.v 1)) (.a (.s (.a (.v 2) (.v 1)) (.v 2)) (.v 0)) rfl) (xZ [a,b,c] [] .o 0 (.a (.s (.a (.v 2) (.v 1)) (.v 2)) (.v 0)) (.a (.v 0) (.v 1)) rfl)
theorem Rh {a b c:Nat} (h:(a+b)/2≤c) (h1:¬c=(a+b)/2):(a+b)/2<c:=by grind
theorem Rf {a b c:Nat} (h:(a:Int)≤(b:Int)) (h1:b<c):a<c:=xN [] [a,b,c] (.l 1 (.c (.v 0)) (.c (.v 1)) (.L 1 (.a (.v 1) (.k 1)) (.v 2) .o)) 0 (.a (.v 0) (.k 1)) (.v 2) rfl h h1
theorem Re {a b c:Nat} (h:(min a b)=c) (h1:(b:Int)<(a:Int)):(b:Int)=(c:Int):=by grind
theorem Rd {a b c:Nat} (h:(min a b)=c) (h1:¬(b:Int)<(a:Int)):(a:Int)=(c:Int):=by grind
theorem Rc {a b c:Nat} (h:1≤a) (h1:b+12*a+20<c):b+1+12*(a-1)+20<c:=xN [] [a,b,c,(a-1)] (.L 1 (.a (.a (.a (.v 1) (.m 12 (.v 0))) (.k 20)) (.k 1)) (.v 2) (.E 12 (.a (.v 3) (.k 1)) (.v 0) .o)) 0 (.a (.a (.a (.a (.v 1) (.k 1)) (.m 12 (.v 3))) (.k 20)) (.k 1)) (.v 2) rfl h1 (Nat.sub_add_cancel (xN [] [a,b,c,(a-1)] (.L 1 (.k 1) (.v 0) .o) 0 (.k 1) (.v 0) rfl h))
theorem Rb {a b c:Nat} (h:1≤a) (h1:b+12*a+20<c):b+3+12*(a-1)+20<c:=xN [] [a,b,c,(a-1)] (.L 1 (.a (.a (.a (.v 1) (.m 12 (.v 0))) (.k 20)) (.k 1)) (.v 2) (.E 12 (.a (.v 3) (.k 1)) (.v 0) .o)) 0 (.a (.a (.a (.a (.v 1) (.k 3)) (.m 12 (.v 3))) (.k 20)) (.k 1)) (.v 2) rfl h1 (Nat.sub_add_cancel (xN [] [a,b,c,(a-1)] (.L 1 (.k 1) (.v 0) .o) 0 (.k 1) (.v 0) rfl h))
theorem Jb {a b c:Nat} (h:1≤a) (h1:b+3*a<c):b+1+3*(a-1)<c:=xN [] [a,b,c,(a-1)] (.L 1 (.a (.a (.v 1) (.m 3 (.v 0))) (.k 1)) (.v 2) (.E 3 (.a (.v 3) (.k 1)) (.v 0) .o)) 0 (.a (.a (.a (.v 1) (.k 1)) (.m 3 (.v 3))) (.k 1)) (.v 2) rfl h1 (Nat.sub_add_cancel (xN [] [a,b,c,(a-1)] (.L 1 (.k 1) (.v 0) .o) 0 (.k 1) (.v 0) rfl h))
theorem Ra {a b c:Nat} (h:a+(b+1)≤c+1):a+1+b≤c+1:=xN [] [a,b,c] (.L 1 (.a (.v 0) (.a (.v 1) (.k 1))) (.a (.v 2) (.k 1)) .o) 0 (.a (.a (.v 0) (.k 1)) (.v 1)) (.a (.v 2) (.k 1)) rfl h
theorem Q9 {a b c:Nat} (h:a+1=b) (h1:0≤(a:Int)∧(a:Int)<(c:Int)) (h2:c<b):False:=xF [] [a,b,c] (.E (-1) (.a (.v 0) (.k 1)) (.v 1) (.l 1 (.a (.c (.v 0)) (.k 1)) (.c (.v 2)) (.L 1 (.a (.v 2) (.k 1)) (.v 1) .o))) rfl h h1.2 h2
theorem Q8 {a b c:Nat} (h:a+1≤a):b=c+1:=by grind
theorem Ja {a b c:Nat} (h:a+1≤b) (h1:b+1≤c):a+1≤c:=xN [] [a,b,c] (.L 1 (.a (.v 0) (.k 1)) (.v 1) (.L 1 (.a (.v 1) (.k 1)) (.v 2) .o)) 0 (.a (.v 0) (.k 1)) (.v 2) rfl h h1
theorem Q7 {a b c:Nat} (h:a+1≤b) (h1:b≤c):a≤c:=xN [] [a,b,c] (.L 1 (.a (.v 0) (.k 1)) (.v 1) (.L 1 (.v 1) (.v 2) .o)) 0 (.v 0) (.v 2) rfl h h1
theorem Q6 {a b c:Nat} (h:a+12*b+20<c):a+1<c:=xN [] [a,b,c] (.L 1 (.a (.a (.a (.v 0) (.m 12 (.v 1))) (.k 20)) (.k 1)) (.v 2) .o) 0 (.a (.a (.v 0) (.k 1)) (.k 1)) (.v 2) rfl h
theorem Q5 {a b c:Nat} (h:a+12*b+20<c):a+6<c:=xN [] [a,b,c] (.L 1 (.a (.a (.a (.v 0) (.m 12 (.v 1))) (.k 20)) (.k 1)) (.v 2) .o) 0 (.a (.a (.v 0) (.k 6)) (.k 1)) (.v 2) rfl h
theorem Q4 {a b c:Nat} (h:a+12*b+20<c):a<c:=xN [] [a,b,c] (.L 1 (.a (.a (.a (.v 0) (.m 12 (.v 1))) (.k 20)) (.k 1)) (.v 2) .o) 0 (.a (.v 0) (.k 1)) (.v 2) rfl h
theorem Q3 {a b c:Nat} (h:a+3*b<c):a<c:=xN [] [a,b,c] (.L 1 (.a (.a (.v 0) (.m 3 (.v 1))) (.k 1)) (.v 2) .o) 0 (.a (.v 0) (.k 1)) (.v 2) rfl h
theorem Q2 {a b c:Nat} (h:a+41*b≤3000000) (h1:c<a):c<2^63:=xN [] [a,b,c] (.L 1 (.a (.v 0) (.m 41 (.v 1))) (.k 3000000) (.L 1 (.a (.v 2) (.k 1)) (.v 0) .o)) 0 (.a (.v 2) (.k 1)) (.k (2^63)) rfl h h1
theorem Q0 {a b c:Nat} (h:a+41*b≤3000000) (h1:c=a):c≤10000000:=xN [] [a,b,c] (.L 1 (.a (.v 0) (.m 41 (.v 1))) (.k 3000000) (.E 1 (.v 2) (.v 0) .o)) 0 (.v 2) (.k 10000000) rfl h h1
theorem Fc {a b c:Nat} (h:a+b=c) (h1:b<c):a-1+(b+1)=c:=Nat.le_antisymm (xN [] [a,b,c,(a-1)] (.E 1 (.a (.v 0) (.v 1)) (.v 2) (.E 1 (.a (.v 3) (.k 1)) (.v 0) .o)) 0 (.a (.v 3) (.a (.v 1) (.k 1))) (.v 2) rfl h (Nat.sub_add_cancel (xN [] [a,b,c,(a-1)] (.E (-1) (.a (.v 0) (.v 1)) (.v 2) (.L 1 (.a (.v 1) (.k 1)) (.v 2) .o)) 0 (.k 1) (.v 0) rfl h h1))) (xN [] [a,b,c,(a-1)] (.E (-1) (.a (.v 0) (.v 1)) (.v 2) (.E (-1) (.a (.v 3) (.k 1)) (.v 0) .o)) 0 (.v 2) (.a (.v 3) (.a (.v 1) (.k 1))) rfl h (Nat.sub_add_cancel (xN [] [a,b,c,(a-1)] (.E (-1) (.a (.v 0) (.v 1)) (.v 2) (.L 1 (.a (.v 1) (.k 1)) (.v 2) .o)) 0 (.k 1) (.v 0) rfl h h1)))
theorem Fb {a b c:Nat} (h:a+b=c) (h1:b<c):a-1<a:=xN [] [a,b,c,(a-1)] (.E 1 (.a (.v 3) (.k 1)) (.v 0) .o) 0 (.a (.v 3) (.k 1)) (.v 0) rfl (Nat.sub_add_cancel (xN [] [a,b,c,(a-1)] (.E (-1) (.a (.v 0) (.v 1)) (.v 2) (.L 1 (.a (.v 1) (.k 1)) (.v 2) .o)) 0 (.k 1) (.v 0) rfl h h1))
theorem I9 {a b c:Nat} (h:a+b=c) (h1:c≤b):b=c:=Nat.le_antisymm (xN [] [a,b,c] (.E 1 (.a (.v 0) (.v 1)) (.v 2) .o) 0 (.v 1) (.v 2) rfl h) (xN [] [a,b,c] (.E 999 (.a (.v 0) (.v 1)) (.v 2) (.L 1000 (.v 2) (.v 1) .o)) 0 (.v 2) (.v 1) rfl h h1)
theorem Qz {a b c:Nat} (h:a+b≤10000000) (h1:c=a):c≤16777216:=xN [] [a,b,c] (.L 1 (.a (.v 0) (.v 1)) (.k 10000000) (.E 1 (.v 2) (.v 0) .o)) 0 (.v 2) (.k 16777216) rfl h h1
theorem Qy {a b c:Nat} (h:a+b≤c) (h1:b>0):a+1+(b-1)≤c:=xN [] [a,b,c,(b-1)] (.L 1 (.a (.v 0) (.v 1)) (.v 2) (.E 1 (.a (.v 3) (.k 1)) (.v 1) .o)) 0 (.a (.a (.v 0) (.k 1)) (.v 3)) (.v 2) rfl h (Nat.sub_add_cancel (xN [] [a,b,c,(b-1)] (.L 1 (.a (.k 0) (.k 1)) (.v 1) .o) 0 (.k 1) (.v 1) rfl h1))
theorem Qx {a b c:Nat} (h:a+b≤c):a≤c:=xN [] [a,b,c] (.L 1 (.a (.v 0) (.v 1)) (.v 2) .o) 0 (.v 0) (.v 2) rfl h
theorem I8 {a b c:Nat} (h:a-b=c+1):a-(b+1)=c:=by omega
theorem Qw {a b c:Nat} (h:a-b=c+1):b<a:=by omega
theorem Qv {a b c:Nat} (h:a-b≤c+1):(b+a)/2-b≤c:=by omega
theorem Qu {a b c:Nat} (h:a-b≤c+1):a-((b+a)/2+1)≤c:=by omega
theorem Qt {a b c:Nat} (h:a<(b+c)/2+1) (h1:¬a=(b+c)/2):a<(b+c)/2:=by grind
theorem Qs {a b c:Nat} (h:a<10*b):a-(c+1)<10*b:=xN [] [a,b,c,(a-(c+1))] (.L 1 (.a (.v 0) (.k 1)) (.m 10 (.v 1)) (.L 1 (.v 3) (.v 0) .o)) 0 (.a (.v 3) (.k 1)) (.m 10 (.v 1)) rfl h (Nat.sub_le ..)
theorem Qr {a b c:Nat} (h:a<6) (h1:b≤20+2*(3+a)) (h2:c≤b+3):c≤39:=xN [] [a,b,c] (.L 2 (.a (.v 0) (.k 1)) (.k 6) (.L 1 (.v 1) (.a (.k 20) (.m 2 (.a (.k 3) (.v 0)))) (.L 1 (.v 2) (.a (.v 1) (.k 3)) .o))) 0 (.v 2) (.k 39) rfl h h1 h2
theorem Fa {a b c:Nat} (h:a<6) (h1:b≤22+(3+a)) (h2:c=b):c≤10000000:=xN [] [a,b,c] (.L 1 (.a (.v 0) (.k 1)) (.k 6) (.L 1 (.v 1) (.a (.k 22) (.a (.k 3) (.v 0))) (.E 1 (.v 2) (.v 1) .o))) 0 (.v 2) (.k 10000000) rfl h h1 h2
theorem Qq {a b c:Nat} (h:a<64) (h1:b=a) (h2:c=b):c<64:=xN [] [a,b,c] (.L 1 (.a (.v 0) (.k 1)) (.k 64) (.E 1 (.v 1) (.v 0) (.E 1 (.v 2) (.v 1) .o))) 0 (.a (.v 2) (.k 1)) (.k 64) rfl h h1 h2
theorem Qp {a b c:Nat} (h:a<64) (h1:b≤a) (h2:c=b):c≤200:=xN [] [a,b,c] (.L 1 (.a (.v 0) (.k 1)) (.k 64) (.L 1 (.v 1) (.v 0) (.E 1 (.v 2) (.v 1) .o))) 0 (.v 2) (.k 200) rfl h h1 h2
theorem B3 {a b c:Nat} (h:a<76) (h1:b=a) (h2:4096≤c):b+1≤c:=xN [] [a,b,c] (.L 1 (.a (.v 0) (.k 1)) (.k 76) (.E 1 (.v 1) (.v 0) (.L 1 (.k 4096) (.v 2) .o))) 0 (.a (.v 1) (.k 1)) (.v 2) rfl h h1 h2
theorem Qo {a b c:Nat} (h:a<76) (h1:b=a) (h2:c=4096):b<c:=xN [] [a,b,c] (.L 1 (.a (.v 0) (.k 1)) (.k 76) (.E 1 (.v 1) (.v 0) (.E (-1) (.v 2) (.k 4096) .o))) 0 (.a (.v 1) (.k 1)) (.v 2) rfl h h1 h2
theorem Qn {a b c:Nat} (h:a<a):b=c:=by grind
theorem Qm {a b c:Nat} (h:a<b+1) (h1:c<a):a-(c+1)<b:=xN [] [a,b,c,(a-(c+1))] (.L 1 (.a (.v 0) (.k 1)) (.a (.v 1) (.k 1)) (.E 1 (.a (.v 3) (.a (.v 2) (.k 1))) (.v 0) .o)) 0 (.a (.v 3) (.k 1)) (.v 1) rfl h (Nat.sub_add_cancel (xN [] [a,b,c,(a-(c+1))] (.L 1 (.a (.v 2) (.k 1)) (.v 0) .o) 0 (.a (.v 2) (.k 1)) (.v 0) rfl h1))
theorem Ql {a b c:Nat} (h:a<b+1) (h1:¬a<c) (h2:¬a=c):a-1<b:=(Nat.lt_or_gt_of_ne h2).elim (λ k1=>xN [] [a,b,c,(a-1)] (.L 1 (.a (.v 0) (.k 1)) (.a (.v 1) (.k 1)) (.N 1000 (.a (.v 0) (.k 1)) (.v 2) (.L 1000 (.a (.v 0) (.k 1)) (.v 2) (.E 1 (.a (.v 3) (.k 1)) (.v 0) .o)))) 0 (.a (.v 3) (.k 1)) (.v 1) rfl h h1 k1 (Nat.sub_add_cancel (xN [] [a,b,c,(a-1)] (.N 1000 (.a (.v 0) (.k 1)) (.v 2) (.L 1000 (.a (.v 0) (.k 1)) (.v 2) .o)) 0 (.k 1) (.v 0) rfl h1 k1))) (λ k2=>xN [] [a,b,c,(a-1)] (.L 1 (.a (.v 0) (.k 1)) (.a (.v 1) (.k 1)) (.E 1 (.a (.v 3) (.k 1)) (.v 0) .o)) 0 (.a (.v 3) (.k 1)) (.v 1) rfl h (Nat.sub_add_cancel (xN [] [a,b,c,(a-1)] (.L 1 (.a (.v 2) (.k 1)) (.v 0) .o) 0 (.k 1) (.v 0) rfl k2)))
theorem Qk {a b c:Nat} (h:a<b) (h1:(c:Int)<(a:Int)):c<b:=xN [] [a,b,c] (.L 1 (.a (.v 0) (.k 1)) (.v 1) (.l 1 (.a (.c (.v 2)) (.k 1)) (.c (.v 0)) .o)) 0 (.a (.v 2) (.k 1)) (.v 1) rfl h h1
theorem Qj {a b c:Nat} (h:a<b) (h1:a<c):a<(min b c)-0:=by grind
theorem Qi {a b c:Nat} (h:a<b) (h1:c<a):c<b:=xN [] [a,b,c] (.L 1 (.a (.v 0) (.k 1)) (.v 1) (.L 1 (.a (.v 2) (.k 1)) (.v 0) .o)) 0 (.a (.v 2) (.k 1)) (.v 1) rfl h h1
theorem Qh {a b c:Nat} (h:a<b) (h1:c=a) (h2:c=b):False:=xF [] [a,b,c] (.L 1 (.a (.v 0) (.k 1)) (.v 1) (.E 1 (.v 2) (.v 0) (.E (-1) (.v 2) (.v 1) .o))) rfl h h1 h2
theorem Qf {a b c:Nat} (h:a<b) (h1:c=a):¬c=b:=xF [] [a,b,c] (.L 1 (.a (.v 0) (.k 1)) (.v 1) (.E 1 (.v 2) (.v 0) (.E (-1) (.v 2) (.v 1) .o))) rfl h h1
theorem Qe {a b c:Nat} (h:a<b) (h1:c=b):a≤c:=xN [] [a,b,c] (.L 1 (.a (.v 0) (.k 1)) (.v 1) (.E (-1) (.v 2) (.v 1) .o)) 0 (.v 0) (.v 2) rfl h h1
theorem I7 {a b c:Nat} (h:a<b) (h1:c≤40) (h2:b=c):a<1000:=xN [] [a,b,c] (.L 1 (.a (.v 0) (.k 1)) (.v 1) (.L 1 (.v 2) (.k 40) (.E 1 (.v 1) (.v 2) .o))) 0 (.a (.v 0) (.k 1)) (.k 1000) rfl h h1 h2
theorem Qd {a b c:Nat} (h:a<b) (h1:¬a<c) (h2:¬a=c):a-1<b-1:=(Nat.lt_or_gt_of_ne h2).elim (λ k1=>xN [] [a,b,c,(a-1),(b-1)] (.L 1 (.a (.v 0) (.k 1)) (.v 1) (.N 1000 (.a (.v 0) (.k 1)) (.v 2) (.L 1000 (.a (.v 0) (.k 1)) (.v 2) (.E 1 (.a (.v 3) (.k 1)) (.v 0) (.E (-1) (.a (.v 4) (.k 1)) (.v 1) .o))))) 0 (.a (.v 3) (.k 1)) (.v 4) rfl h h1 k1 (Nat.sub_add_cancel (xN [] [a,b,c,(a-1),(b-1)] (.N 1000 (.a (.v 0) (.k 1)) (.v 2) (.L 1000 (.a (.v 0) (.k 1)) (.v 2) .o)) 0 (.k 1) (.v 0) rfl h1 k1)) (Nat.sub_add_cancel (xN [] [a,b,c,(a-1),(b-1)] (.L 1 (.a (.v 0) (.k 1)) (.v 1) (.N 1000 (.a (.v 0) (.k 1)) (.v 2) (.L 1000 (.a (.v 0) (.k 1)) (.v 2) (.E 1 (.a (.v 3) (.k 1)) (.v 0) .o)))) 0 (.k 1) (.v 1) rfl h h1 k1 (Nat.sub_add_cancel (xN [] [a,b,c,(a-1),(b-1)] (.N 1000 (.a (.v 0) (.k 1)) (.v 2) (.L 1000 (.a (.v 0) (.k 1)) (.v 2) .o)) 0 (.k 1) (.v 0) rfl h1 k1))))) (λ k2=>xN [] [a,b,c,(a-1),(b-1)] (.L 1 (.a (.v 0) (.k 1)) (.v 1) (.E 1 (.a (.v 3) (.k 1)) (.v 0) (.E (-1) (.a (.v 4) (.k 1)) (.v 1) .o))) 0 (.a (.v 3) (.k 1)) (.v 4) rfl h (Nat.sub_add_cancel (xN [] [a,b,c,(a-1),(b-1)] (.L 1 (.a (.v 2) (.k 1)) (.v 0) .o) 0 (.k 1) (.v 0) rfl k2)) (Nat.sub_add_cancel (xN [] [a,b,c,(a-1),(b-1)] (.L 1 (.a (.v 0) (.k 1)) (.v 1) (.L 1 (.a (.v 2) (.k 1)) (.v 0) .o)) 0 (.k 1) (.v 1) rfl h k2)))
theorem Qc {a b c:Nat} (h:a<b):b-(a+1)+41*c<b-a+41*c:=xN [] [a,b,c,(b-(a+1)),(b-a)] (.E 1 (.a (.v 3) (.a (.v 0) (.k 1))) (.v 1) (.E (-1) (.a (.v 4) (.v 0)) (.v 1) .o)) 0 (.a (.a (.v 3) (.m 41 (.v 2))) (.k 1)) (.a (.v 4) (.m 41 (.v 2))) rfl (Nat.sub_add_cancel (xN [] [a,b,c,(b-(a+1)),(b-a)] (.L 1 (.a (.v 0) (.k 1)) (.v 1) .o) 0 (.a (.v 0) (.k 1)) (.v 1) rfl h)) (Nat.sub_add_cancel (xN [] [a,b,c,(b-(a+1)),(b-a)] (.L 1 (.a (.v 0) (.k 1)) (.v 1) .o) 0 (.v 0) (.v 1) rfl h))
theorem Qb {a b c:Nat} (h:a=b+1) (h1:c<a):c<b∨c=b:=by omega
theorem Qa {a b c:Nat} (h:a=b+1) (h1:c<a):c≤b:=xN [] [a,b,c] (.E 1 (.v 0) (.a (.v 1) (.k 1)) (.L 1 (.a (.v 2) (.k 1)) (.v 0) .o)) 0 (.v 2) (.v 1) rfl h h1
theorem P9 {a b c:Nat} (h:a=b+1) (h1:c<b):c<a:=xN [] [a,b,c] (.E (-1) (.v 0) (.a (.v 1) (.k 1)) (.L 1 (.a (.v 2) (.k 1)) (.v 1) .o)) 0 (.a (.v 2) (.k 1)) (.v 0) rfl h h1
theorem P8 {a b c:Nat} (h:a=b+1) (h1:c≤b):c<a:=xN [] [a,b,c] (.E (-1) (.v 0) (.a (.v 1) (.k 1)) (.L 1 (.v 2) (.v 1) .o)) 0 (.a (.v 2) (.k 1)) (.v 0) rfl h h1
theorem P7 {a b c:Nat} (h:a=b) (h1:(c:Int)<(b:Int)):c<a:=xN [] [a,b,c] (.E (-1) (.v 0) (.v 1) (.l 1 (.a (.c (.v 2)) (.k 1)) (.c (.v 1)) .o)) 0 (.a (.v 2) (.k 1)) (.v 0) rfl h h1
theorem P6 {a b c:Nat} (h:a=b) (h1:a≤40) (h2:c=b):c≤40:=xN [] [a,b,c] (.E (-1) (.v 0) (.v 1) (.L 1 (.v 0) (.k 40) (.E 1 (.v 2) (.v 1) .o))) 0 (.v 2) (.k 40) rfl h h1 h2
theorem P5 {a b c:Nat} (h:a=b) (h1:a≤c):¬c<b:=xF [] [a,b,c] (.E (-1) (.v 0) (.v 1) (.L 1 (.v 0) (.v 2) (.L 1 (.a (.v 2) (.k 1)) (.v 1) .o))) rfl h h1
theorem P4 {a b c:Nat} (h:a=b) (h1:b≤40) (h2:c<a):c<2^63:=xN [] [a,b,c] (.E 1 (.v 0) (.v 1) (.L 1 (.v 1) (.k 40) (.L 1 (.a (.v 2) (.k 1)) (.v 0) .o))) 0 (.a (.v 2) (.k 1)) (.k (2^63)) rfl h h1 h2
theorem P3 {a b c:Nat} (h:a=b) (h1:b≤40) (h2:c=a):c≤100000:=xN [] [a,b,c] (.E 1 (.v 0) (.v 1) (.L 1 (.v 1) (.k 40) (.E 1 (.v 2) (.v 0) .o))) 0 (.v 2) (.k 100000) rfl h h1 h2
theorem P2 {a b c:Nat} (h:a=b) (h1:c<a):c<b:=xN [] [a,b,c] (.E 1 (.v 0) (.v 1) (.L 1 (.a (.v 2) (.k 1)) (.v 0) .o)) 0 (.a (.v 2) (.k 1)) (.v 1) rfl h h1
theorem P1 {a b c:Nat} (h:a=b) (h1:c<a):c<b+1:=xN [] [a,b,c] (.E 1 (.v 0) (.v 1) (.L 1 (.a (.v 2) (.k 1)) (.v 0) .o)) 0 (.a (.v 2) (.k 1)) (.a (.v 1) (.k 1)) rfl h h1
theorem P0 {a b c:Nat} (h:a=b) (h1:c=a+1):c=b+1:=Nat.le_antisymm (xN [] [a,b,c] (.E 1 (.v 0) (.v 1) (.E 1 (.v 2) (.a (.v 0) (.k 1)) .o)) 0 (.v 2) (.a (.v 1) (.k 1)) rfl h h1) (xN [] [a,b,c] (.E (-1) (.v 0) (.v 1) (.E (-1) (.v 2) (.a (.v 0) (.k 1)) .o)) 0 (.a (.v 1) (.k 1)) (.v 2) rfl h h1)
theorem Pz {a b c:Nat} (h:a=b) (h1:c=b):a=c:=Nat.le_antisymm (xN [] [a,b,c] (.E 1 (.v 0) (.v 1) (.E (-1) (.v 2) (.v 1) .o)) 0 (.v 0) (.v 2) rfl h h1) (xN [] [a,b,c] (.E (-1) (.v 0) (.v 1) (.E 1 (.v 2) (.v 1) .o)) 0 (.v 2) (.v 0) rfl h h1)
theorem Py {a b c:Nat} (h:a=b) (h1:¬a=c) (h2:c=b):False:=by grind
theorem I6 {a b c:Nat} (h:a=b) (h1:¬c<a) (h2:c-a<1):c=b:=Nat.le_antisymm (xN [] [a,b,c,(c-a)] (.E 1 (.v 0) (.v 1) (.N 999 (.a (.v 2) (.k 1)) (.v 0) (.L 1000 (.a (.v 3) (.k 1)) (.k 1) (.E (-1000) (.a (.v 3) (.v 0)) (.v 2) .o)))) 0 (.v 2) (.v 1) rfl h h1 h2 (Nat.sub_add_cancel (xN [] [a,b,c,(c-a)] (.N 1 (.a (.v 2) (.k 1)) (.v 0) .o) 0 (.v 0) (.v 2) rfl h1))) (xN [] [a,b,c,(c-a)] (.E (-1) (.v 0) (.v 1) (.L 1000 (.a (.v 3) (.k 1)) (.k 1) (.E 1 (.a (.v 3) (.v 0)) (.v 2) .o))) 0 (.v 1) (.v 2) rfl h h2 (Nat.sub_add_cancel (xN [] [a,b,c,(c-a)] (.N 1 (.a (.v 2) (.k 1)) (.v 0) .o) 0 (.v 0) (.v 2) rfl h1)))
theorem Px {a b c:Nat} (h:a=b) (h1:¬c<a):b≤c:=xN [] [a,b,c] (.E (-1) (.v 0) (.v 1) (.N 1 (.a (.v 2) (.k 1)) (.v 0) .o)) 0 (.v 1) (.v 2) rfl h h1
theorem Pw {a b c:Nat} (h:a=b) (h1:¬c<b):a≤c:=xN [] [a,b,c] (.E 1 (.v 0) (.v 1) (.N 1 (.a (.v 2) (.k 1)) (.v 1) .o)) 0 (.v 0) (.v 2) rfl h h1
theorem Pv {a b c:Nat} (h:a=b):(min b c)≤a:=xN [] [a,b,c,((min b c))] (.E (-1) (.v 0) (.v 1) (.L 1 (.v 3) (.v 1) .o)) 0 (.v 3) (.v 0) rfl h (Nat.min_le_left ..)
theorem Pu {a b c:Nat} (h:a≠b) (h1:c=a):¬c=b:=(Nat.lt_or_gt_of_ne h).elim (λ k1=>xF [] [a,b,c] (.E 1 (.v 2) (.v 0) (.L 1 (.a (.v 0) (.k 1)) (.v 1) (.E (-1) (.v 2) (.v 1) .o))) rfl h1 k1) (λ k2=>xF [] [a,b,c] (.E (-1) (.v 2) (.v 0) (.L 1 (.a (.v 1) (.k 1)) (.v 0) (.E 1 (.v 2) (.v 1) .o))) rfl h1 k2)
theorem Pt {a b c:Nat} (h:a≤100) (h1:b<a) (h2:(c:Int)<(b:Int)):c<2^63:=xN [] [a,b,c] (.L 1 (.v 0) (.k 100) (.L 1 (.a (.v 1) (.k 1)) (.v 0) (.l 1 (.a (.c (.v 2)) (.k 1)) (.c (.v 1)) .o))) 0 (.a (.v 2) (.k 1)) (.k (2^63)) rfl h h1 h2
theorem Ps {a b c:Nat} (h:a≤100) (h1:b<a) (h2:c≤b):c≤10000000:=xN [] [a,b,c] (.L 1 (.v 0) (.k 100) (.L 1 (.a (.v 1) (.k 1)) (.v 0) (.L 1 (.v 2) (.v 1) .o))) 0 (.v 2) (.k 10000000) rfl h h1 h2
theorem Pr {a b c:Nat} (h:a≤100) (h1:b=a) (h2:c=b):c≤100000:=xN [] [a,b,c] (.L 1 (.v 0) (.k 100) (.E 1 (.v 1) (.v 0) (.E 1 (.v 2) (.v 1) .o))) 0 (.v 2) (.k 100000) rfl h h1 h2
theorem Pq {a b c:Nat} (h:a≤100) (h1:b≤100) (h2:c<a):b+c≤10000000:=xN [] [a,b,c] (.L 1 (.v 0) (.k 100) (.L 1 (.v 1) (.k 100) (.L 1 (.a (.v 2) (.k 1)) (.v 0) .o))) 0 (.a (.v 1) (.v 2)) (.k 10000000) rfl h h1 h2
theorem Pp {a b c:Nat} (h:a≤100000) (h1:b≤c) (h2:c<a):b≤16777216:=xN [] [a,b,c] (.L 1 (.v 0) (.k 100000) (.L 1 (.v 1) (.v 2) (.L 1 (.a (.v 2) (.k 1)) (.v 0) .o))) 0 (.v 1) (.k 16777216) rfl h h1 h2
theorem Po {a b c:Nat} (h:a≤200) (h1:b=a) (h2:4096≤c):b≤c:=xN [] [a,b,c] (.L 1 (.v 0) (.k 200) (.E 1 (.v 1) (.v 0) (.L 1 (.k 4096) (.v 2) .o))) 0 (.v 1) (.v 2) rfl h h1 h2
theorem Pn {a b c:Nat} (h:a≤40) (h1:b<a) (h2:(c:Int)<(b:Int)):c<2^63:=xN [] [a,b,c] (.L 1 (.v 0) (.k 40) (.L 1 (.a (.v 1) (.k 1)) (.v 0) (.l 1 (.a (.c (.v 2)) (.k 1)) (.c (.v 1)) .o))) 0 (.a (.v 2) (.k 1)) (.k (2^63)) rfl h h1 h2
theorem Pm {a b c:Nat} (h:a≤76) (h1:b<a):(min b c)<76:=xN [] [a,b,c,((min b c))] (.L 1 (.v 0) (.k 76) (.L 1 (.a (.v 1) (.k 1)) (.v 0) (.L 1 (.v 3) (.v 1) .o))) 0 (.a (.v 3) (.k 1)) (.k 76) rfl h h1 (Nat.min_le_left ..)
theorem Pl {a b c:Nat} (h:a≤b*1541) (h1:c≤1541):c+a≤b*1541+1541:=xN [] [a,b,c] (.L 1 (.v 0) (.r (.v 1) 1541) (.L 1 (.v 2) (.k 1541) .o)) 0 (.a (.v 2) (.v 0)) (.a (.r (.v 1) 1541) (.k 1541)) rfl h h1
theorem Pk {a b c:Nat} (h:a≤b+1) (h1:c<a) (h2:¬c<b):c=b:=Nat.le_antisymm (xN [] [a,b,c] (.L 1 (.v 0) (.a (.v 1) (.k 1)) (.L 1 (.a (.v 2) (.k 1)) (.v 0) .o)) 0 (.v 2) (.v 1) rfl h h1) (xN [] [a,b,c] (.L 999 (.v 0) (.a (.v 1) (.k 1)) (.L 999 (.a (.v 2) (.k 1)) (.v 0) (.N 1000 (.a (.v 2) (.k 1)) (.v 1) .o))) 0 (.v 1) (.v 2) rfl h h1 h2)
theorem Pj {a b c:Nat} (h:a≤b+13) (h1:c≤10*a):c<10*(b+15):=xN [] [a,b,c] (.L 10 (.v 0) (.a (.v 1) (.k 13)) (.L 1 (.v 2) (.m 10 (.v 0)) .o)) 0 (.a (.v 2) (.k 1)) (.m 10 (.a (.v 1) (.k 15))) rfl h h1
theorem Pi {a b c:Nat} (h:a≤b+2) (h1:b≤20+2*c):a≤20+2*(c+1):=xN [] [a,b,c] (.L 1 (.v 0) (.a (.v 1) (.k 2)) (.L 1 (.v 1) (.a (.k 20) (.m 2 (.v 2))) .o)) 0 (.v 0) (.a (.k 20) (.m 2 (.a (.v 2) (.k 1)))) rfl h h1
theorem Ph {a b c:Nat} (h:a≤b+c):a+1≤b+(c+1):=xN [] [a,b,c] (.L 1 (.v 0) (.a (.v 1) (.v 2)) .o) 0 (.a (.v 0) (.k 1)) (.a (.v 1) (.a (.v 2) (.k 1))) rfl h
theorem Pg {a b c:Nat} (h:a≤b∧b≤c):0<b+1-a:=xN [] [a,b,c,(b+1-a)] (.L 1 (.v 0) (.v 1) (.E (-1) (.a (.v 3) (.v 0)) (.a (.v 1) (.k 1)) .o)) 0 (.a (.k 0) (.k 1)) (.v 3) rfl h.1 (Nat.sub_add_cancel (xN [] [a,b,c,(b+1-a)] (.L 1 (.v 0) (.v 1) .o) 0 (.v 0) (.a (.v 1) (.k 1)) rfl h.1))
theorem I5 {a b c:Nat} (h:a≤b∧b≤c):a+(b-a)≤c:=xN [] [a,b,c,(b-a)] (.L 1 (.v 1) (.v 2) (.E 1 (.a (.v 3) (.v 0)) (.v 1) .o)) 0 (.a (.v 0) (.v 3)) (.v 2) rfl h.2 (Nat.sub_add_cancel (xN [] [a,b,c,(b-a)] (.L 1 (.v 0) (.v 1) .o) 0 (.v 0) (.v 1) rfl h.1))
theorem I4 {a b c:Nat} (h:a≤b) (h1:b+1≤c):a+1≤c:=xN [] [a,b,c] (.L 1 (.v 0) (.v 1) (.L 1 (.a (.v 1) (.k 1)) (.v 2) .o)) 0 (.a (.v 0) (.k 1)) (.v 2) rfl h h1
theorem Pf {a b c:Nat} (h:a≤b) (h1:b≤c):a≤c:=xN [] [a,b,c] (.L 1 (.v 0) (.v 1) (.L 1 (.v 1) (.v 2) .o)) 0 (.v 0) (.v 2) rfl h h1
theorem Pe {a b c:Nat} (h:a≤b) (h1:c<a):(c+a)/2<b:=by grind
theorem Pd {a b c:Nat} (h:a≤b) (h1:c<a):c<(min a b):=by grind
theorem Pc {a b c:Nat} (h:a≤b) (h1:c=a):c-(min a b)=0:=by grind
theorem Pb {a b c:Nat} (h:a≤b) (h1:c=a):c≤b:=xN [] [a,b,c] (.L 1 (.v 0) (.v 1) (.E 1 (.v 2) (.v 0) .o)) 0 (.v 2) (.v 1) rfl h h1
theorem Pa {a b c:Nat} (h:a≤b) (h1:c=b):a≤c:=xN [] [a,b,c] (.L 1 (.v 0) (.v 1) (.E (-1) (.v 2) (.v 1) .o)) 0 (.v 0) (.v 2) rfl h h1
theorem I3 {a b c:Nat} (h:a≤b):a≤b+c:=xN [] [a,b,c] (.L 1 (.v 0) (.v 1) .o) 0 (.v 0) (.a (.v 1) (.v 2)) rfl h
theorem O9 {a b c:Nat} (h:¬a<b) (h1:a<c):b≤c:=xN [] [a,b,c] (.N 1 (.a (.v 0) (.k 1)) (.v 1) (.L 1 (.a (.v 0) (.k 1)) (.v 2) .o)) 0 (.v 1) (.v 2) rfl h h1
theorem O8 {a b c:Nat} (h:¬a<b) (h1:¬a=b) (h2:c<b):c<a-1:=(Nat.lt_or_gt_of_ne h1).elim (λ k1=>xN [] [a,b,c,(a-1)] (.N 1000 (.a (.v 0) (.k 1)) (.v 1) (.L 1 (.a (.v 2) (.k 1)) (.v 1) (.L 999 (.a (.v 0) (.k 1)) (.v 1) (.E (-1) (.a (.v 3) (.k 1)) (.v 0) .o)))) 0 (.a (.v 2) (.k 1)) (.v 3) rfl h h2 k1 (Nat.sub_add_cancel (xN [] [a,b,c,(a-1)] (.N 1000 (.a (.v 0) (.k 1)) (.v 1) (.L 1000 (.a (.v 0) (.k 1)) (.v 1) .o)) 0 (.k 1) (.v 0) rfl h k1))) (λ k2=>xN [] [a,b,c,(a-1)] (.L 1 (.a (.v 2) (.k 1)) (.v 1) (.L 1 (.a (.v 1) (.k 1)) (.v 0) (.E (-1) (.a (.v 3) (.k 1)) (.v 0) .o))) 0 (.a (.v 2) (.k 1)) (.v 3) rfl h2 k2 (Nat.sub_add_cancel (xN [] [a,b,c,(a-1)] (.L 1 (.a (.v 2) (.k 1)) (.v 1) (.L 1 (.a (.v 1) (.k 1)) (.v 0) .o)) 0 (.k 1) (.v 0) rfl h2 k2)))
theorem O7 {a b c:Nat} (h:¬a<b):(min b c)≤a:=xN [] [a,b,c,((min b c))] (.N 1 (.a (.v 0) (.k 1)) (.v 1) (.L 1 (.v 3) (.v 1) .o)) 0 (.v 3) (.v 0) rfl h (Nat.min_le_left ..)
theorem O6 {a b c:Nat} (h:¬a<b):¬a<(min c b)-0:=xF [] [a,b,c,((min c b)),(((min c b))-0)] (.N 1 (.a (.v 0) (.k 1)) (.v 1) (.L 1 (.v 3) (.v 1) (.E 1 (.a (.v 4) (.k 0)) (.v 3) (.L 1 (.a (.v 0) (.k 1)) (.v 4) .o)))) rfl h (Nat.min_le_right ..) (Nat.sub_add_cancel (xN [] [a,b,c,((min c b)),(((min c b))-0)] .o 0 (.k 0) (.v 3) rfl))
theorem O5 {a b c:Nat}:a+b+c=c+b+a:=Nat.le_antisymm (xN [] [a,b,c] .o 0 (.a (.a (.v 0) (.v 1)) (.v 2)) (.a (.a (.v 2) (.v 1)) (.v 0)) rfl) (xN [] [a,b,c] .o 0 (.a (.a (.v 2) (.v 1)) (.v 0)) (.a (.a (.v 0) (.v 1)) (.v 2)) rfl)
theorem O4 {a b c:Nat} {d:Int} (h:a<3) (h1:b=1+a) (h2:(c:Int)+d≤1600):(b:Int)+d≤90000:=xZ [d] [a,b,c] (.L 1 (.a (.v 0) (.k 1)) (.k 3) (.E 1 (.v 1) (.a (.k 1) (.v 0)) (.l 1 (.a (.c (.v 2)) (.v 0)) (.k 1600) .o))) 0 (.a (.c (.v 1)) (.v 0)) (.k 90000) rfl h h1 h2
theorem O3 {a b c:Nat} {d:Int} (h:a≤b) (h1:(c:Int)+(b:Int)+41*d≤70000):(c:Int)+(a:Int)+41*d≤70000:=xZ [d] [a,b,c] (.L 1 (.v 0) (.v 1) (.l 1 (.a (.a (.c (.v 2)) (.c (.v 1))) (.m 41 (.v 0))) (.k 70000) .o)) 0 (.a (.a (.c (.v 2)) (.c (.v 0))) (.m 41 (.v 0))) (.k 70000) rfl h h1
theorem O2 {a b c d:Int} (h:a=b∨a=c) (h1:d=b∨d=c) (h2:b=a∨b=d) (h3:c=a∨c=d):a=b∧d=c∨a=c∧d=b:=by grind
theorem O1 {a b c d:Int}:a+(b-c+d)=a+b-c+d:=Int.le_antisymm (xZ [a,b,c,d] [] .o 0 (.a (.v 0) (.a (.s (.v 1) (.v 2)) (.v 3))) (.a (.s (.a (.v 0) (.v 1)) (.v 2)) (.v 3)) rfl) (xZ [a,b,c,d] [] .o 0 (.a (.s (.a (.v 0) (.v 1)) (.v 2)) (.v 3)) (.a (.v 0) (.a (.s (.v 1) (.v 2)) (.v 3))) rfl)
theorem O0 {a b c d:Nat} (h:(a:Int)=(b:Int)∧(c:Int)=(d:Int)∨(a:Int)=(d:Int)∧(c:Int)=(b:Int)):a=b∨a=d:=h.elim (λ k4=>.inl (Nat.le_antisymm (xN [] [a,b,c,d] (.e 1 (.c (.v 0)) (.c (.v 1)) .o) 0 (.v 0) (.v 1) rfl k4.1) (xN [] [a,b,c,d] (.e (-1) (.c (.v 0)) (.c (.v 1)) .o) 0 (.v 1) (.v 0) rfl k4.1))) (λ k5=>.inr (Nat.le_antisymm (xN [] [a,b,c,d] (.e 1 (.c (.v 0)) (.c (.v 3)) .o) 0 (.v 0) (.v 3) rfl k5.1) (xN [] [a,b,c,d] (.e (-1) (.c (.v 0)) (.c (.v 3)) .o) 0 (.v 3) (.v 0) rfl k5.1)))
theorem Oz {a b c d:Nat} (h:(a:Int)=(b:Int)∧(c:Int)=(d:Int)∨(a:Int)=(d:Int)∧(c:Int)=(b:Int)):c=b∨c=d:=h.elim (λ k4=>.inr (Nat.le_antisymm (xN [] [a,b,c,d] (.e 1 (.c (.v 2)) (.c (.v 3)) .o) 0 (.v 2) (.v 3) rfl k4.2) (xN [] [a,b,c,d] (.e (-1) (.c (.v 2)) (.c (.v 3)) .o) 0 (.v 3) (.v 2) rfl k4.2))) (λ k5=>.inl (Nat.le_antisymm (xN [] [a,b,c,d] (.e 1 (.c (.v 2)) (.c (.v 1)) .o) 0 (.v 2) (.v 1) rfl k5.2) (xN [] [a,b,c,d] (.e (-1) (.c (.v 2)) (.c (.v 1)) .o) 0 (.v 1) (.v 2) rfl k5.2)))
theorem Oy {a b c d:Nat} (h:a+1≤b) (h1:c≤d):a+c+1≤b+d:=xN [] [a,b,c,d] (.L 1 (.a (.v 0) (.k 1)) (.v 1) (.L 1 (.v 2) (.v 3) .o)) 0 (.a (.a (.v 0) (.v 2)) (.k 1)) (.a (.v 1) (.v 3)) rfl h h1
theorem Ox {a b c d:Nat} (h:a+1≤b) (h1:c≤d):c+a+1≤d+b:=xN [] [a,b,c,d] (.L 1 (.a (.v 0) (.k 1)) (.v 1) (.L 1 (.v 2) (.v 3) .o)) 0 (.a (.a (.v 2) (.v 0)) (.k 1)) (.a (.v 3) (.v 1)) rfl h h1
theorem Ow {a b c d:Nat} (h:a+41*b≤3000000) (h1:c≤a+d) (h2:d<40):c≤10000000:=xN [] [a,b,c,d] (.L 1 (.a (.v 0) (.m 41 (.v 1))) (.k 3000000) (.L 1 (.v 2) (.a (.v 0) (.v 3)) (.L 1 (.a (.v 3) (.k 1)) (.k 40) .o))) 0 (.v 2) (.k 10000000) rfl h h1 h2
theorem Ov {a b c d:Nat} (h:a+b=c):d+a+b=d+c:=Nat.le_antisymm (xN [] [a,b,c,d] (.E 1 (.a (.v 0) (.v 1)) (.v 2) .o) 0 (.a (.a (.v 3) (.v 0)) (.v 1)) (.a (.v 3) (.v 2)) rfl h) (xN [] [a,b,c,d] (.E (-1) (.a (.v 0) (.v 1)) (.v 2) .o) 0 (.a (.v 3) (.v 2)) (.a (.a (.v 3) (.v 0)) (.v 1)) rfl h)
theorem Ou {a b c d:Nat} (h:a+b≤100000) (h1:c=a) (h2:d=b):c+d≤100000:=xN [] [a,b,c,d] (.L 1 (.a (.v 0) (.v 1)) (.k 100000) (.E 1 (.v 2) (.v 0) (.E 1 (.v 3) (.v 1) .o))) 0 (.a (.v 2) (.v 3)) (.k 100000) rfl h h1 h2
theorem Ot {a b c d:Nat} (h:a+b≤100000) (h1:c=a) (h2:d=b):c+d≤16777216:=xN [] [a,b,c,d] (.L 1 (.a (.v 0) (.v 1)) (.k 100000) (.E 1 (.v 2) (.v 0) (.E 1 (.v 3) (.v 1) .o))) 0 (.a (.v 2) (.v 3)) (.k 16777216) rfl h h1 h2
theorem Os {a b c d:Nat} (h:a+b≤10000000) (h1:c=a) (h2:d=b):c+d≤16777216:=xN [] [a,b,c,d] (.L 1 (.a (.v 0) (.v 1)) (.k 10000000) (.E 1 (.v 2) (.v 0) (.E 1 (.v 3) (.v 1) .o))) 0 (.a (.v 2) (.v 3)) (.k 16777216) rfl h h1 h2
theorem Oq {a b c d:Nat} (h:a+b≤10000000) (h1:c=a) (h2:d=b):c+d≤16777216+1:=xN [] [a,b,c,d] (.L 1 (.a (.v 0) (.v 1)) (.k 10000000) (.E 1 (.v 2) (.v 0) (.E 1 (.v 3) (.v 1) .o))) 0 (.a (.v 2) (.v 3)) (.a (.k 16777216) (.k 1)) rfl h h1 h2
theorem Op {a b c d:Nat} (h:a+b≤10000000) (h1:c=a) (h2:d=b):¬c+d>16777216:=xF [] [a,b,c,d] (.L 1 (.a (.v 0) (.v 1)) (.k 10000000) (.E 1 (.v 2) (.v 0) (.E 1 (.v 3) (.v 1) (.L 1 (.a (.k 16777216) (.k 1)) (.a (.v 2) (.v 3)) .o)))) rfl h h1 h2
theorem Oo {a b c d:Nat} (h:a+b≤40) (h1:c≤b) (h2:d≤a+c):d≤40:=xN [] [a,b,c,d] (.L 1 (.a (.v 0) (.v 1)) (.k 40) (.L 1 (.v 2) (.v 1) (.L 1 (.v 3) (.a (.v 0) (.v 2)) .o))) 0 (.v 3) (.k 40) rfl h h1 h2
theorem On {a b c d:Nat} (h:a<64) (h1:b≤a) (h2:c=b) (h3:d=c):d<64:=xN [] [a,b,c,d] (.L 1 (.a (.v 0) (.k 1)) (.k 64) (.L 1 (.v 1) (.v 0) (.E 1 (.v 2) (.v 1) (.E 1 (.v 3) (.v 2) .o)))) 0 (.a (.v 3) (.k 1)) (.k 64) rfl h h1 h2 h3
theorem Om {a b c d:Nat} (h:a<b+1) (h1:b<a):c=d+1:=by grind
theorem Ol {a b c d:Nat} (h:a<b∧c≤1000000) (h1:d≤c):d≤1000000:=xN [] [a,b,c,d] (.L 1 (.v 2) (.k 1000000) (.L 1 (.v 3) (.v 2) .o)) 0 (.v 3) (.k 1000000) rfl h.2 h1
theorem Ok {a b c d:Nat} (h:a<b) (h1:b=c) (h2:(d:Int)<(a:Int)):d<c:=xN [] [a,b,c,d] (.L 1 (.a (.v 0) (.k 1)) (.v 1) (.E 1 (.v 1) (.v 2) (.l 1 (.a (.c (.v 3)) (.k 1)) (.c (.v 0)) .o))) 0 (.a (.v 3) (.k 1)) (.v 2) rfl h h1 h2
theorem Oj {a b c d:Nat} (h:a<b) (h1:c≤d) (h2:c=b):a≤d:=xN [] [a,b,c,d] (.L 1 (.a (.v 0) (.k 1)) (.v 1) (.L 1 (.v 2) (.v 3) (.E (-1) (.v 2) (.v 1) .o))) 0 (.v 0) (.v 3) rfl h h1 h2
theorem Oi {a b c d:Nat} (h:a=b+1) (h1:c+(d+1)≤b+1):c<a:=xN [] [a,b,c,d] (.E (-1) (.v 0) (.a (.v 1) (.k 1)) (.L 1 (.a (.v 2) (.a (.v 3) (.k 1))) (.a (.v 1) (.k 1)) .o)) 0 (.a (.v 2) (.k 1)) (.v 0) rfl h h1
theorem Oh {a b c d:Nat} (h:a=b+1) (h1:c<b) (h2:d<c):d<a:=xN [] [a,b,c,d] (.E (-1) (.v 0) (.a (.v 1) (.k 1)) (.L 1 (.a (.v 2) (.k 1)) (.v 1) (.L 1 (.a (.v 3) (.k 1)) (.v 2) .o))) 0 (.a (.v 3) (.k 1)) (.v 0) rfl h h1 h2
theorem Og {a b c d:Nat} (h:a=b+1) (h1:c<d) (h2:d<a):d-1<b:=xN [] [a,b,c,d,(d-1)] (.E 1 (.v 0) (.a (.v 1) (.k 1)) (.L 1 (.a (.v 3) (.k 1)) (.v 0) (.E 1 (.a (.v 4) (.k 1)) (.v 3) .o))) 0 (.a (.v 4) (.k 1)) (.v 1) rfl h h2 (Nat.sub_add_cancel (xN [] [a,b,c,d,(d-1)] (.L 1 (.a (.v 2) (.k 1)) (.v 3) .o) 0 (.k 1) (.v 3) rfl h1))
theorem Of {a b c d:Nat} (h:a=b∧c<d):c+(d-c)=d:=by grind
theorem Oe {a b c d:Nat} (h:a=b) (h1:b-c=d+1):c<a:=by omega
theorem Od {a b c d:Nat} (h:a=b) (h1:c<a) (h2:d≤c):d<b:=xN [] [a,b,c,d] (.E 1 (.v 0) (.v 1) (.L 1 (.a (.v 2) (.k 1)) (.v 0) (.L 1 (.v 3) (.v 2) .o))) 0 (.a (.v 3) (.k 1)) (.v 1) rfl h h1 h2
theorem I2 {a b c d:Nat} (h:a=b) (h1:c<b) (h2:(d:Int)<(c:Int)):d<a:=xN [] [a,b,c,d] (.E (-1) (.v 0) (.v 1) (.L 1 (.a (.v 2) (.k 1)) (.v 1) (.l 1 (.a (.c (.v 3)) (.k 1)) (.c (.v 2)) .o))) 0 (.a (.v 3) (.k 1)) (.v 0) rfl h h1 h2
theorem Oc {a b c d:Nat} (h:a=b) (h1:c=a) (h2:¬d<c):b≤d:=xN [] [a,b,c,d] (.E (-1) (.v 0) (.v 1) (.E (-1) (.v 2) (.v 0) (.N 1 (.a (.v 3) (.k 1)) (.v 2) .o))) 0 (.v 1) (.v 3) rfl h h1 h2
theorem I1 {a b c d:Nat} (h:a=b) (h1:c=b) (h2:d<a):d<c:=xN [] [a,b,c,d] (.E 1 (.v 0) (.v 1) (.E (-1) (.v 2) (.v 1) (.L 1 (.a (.v 3) (.k 1)) (.v 0) .o))) 0 (.a (.v 3) (.k 1)) (.v 2) rfl h h1 h2
theorem Ob {a b c d:Nat} (h:a=b) (h1:c=b) (h2:d<c):d<a:=xN [] [a,b,c,d] (.E (-1) (.v 0) (.v 1) (.E 1 (.v 2) (.v 1) (.L 1 (.a (.v 3) (.k 1)) (.v 2) .o))) 0 (.a (.v 3) (.k 1)) (.v 0) rfl h h1 h2
theorem Oa {a b c d:Nat} (h:a≤10*b) (h1:c-d≤9):c-d+1+a≤10*(b+1):=xN [] [a,b,c,d,(c-d)] (.L 1 (.v 0) (.m 10 (.v 1)) (.L 1 (.v 4) (.k 9) .o)) 0 (.a (.a (.v 4) (.k 1)) (.v 0)) (.m 10 (.a (.v 1) (.k 1))) rfl h h1
theorem N9 {a b c d:Nat} (h:a≤b) (h1:b<a):c=d:=by omega
theorem N8 {a b c d:Nat} (h:a≤b) (h1:c<a) (h2:d≤c):d<b:=xN [] [a,b,c,d] (.L 1 (.v 0) (.v 1) (.L 1 (.a (.v 2) (.k 1)) (.v 0) (.L 1 (.v 3) (.v 2) .o))) 0 (.a (.v 3) (.k 1)) (.v 1) rfl h h1 h2
theorem N7 {a b c d:Nat} (h:a≤b) (h1:c<d) (h2:d=a):c<b:=xN [] [a,b,c,d] (.L 1 (.v 0) (.v 1) (.L 1 (.a (.v 2) (.k 1)) (.v 3) (.E 1 (.v 3) (.v 0) .o))) 0 (.a (.v 2) (.k 1)) (.v 1) rfl h h1 h2
theorem N6 {a b c d:Nat} (h:a≤b) (h1:c=b) (h2:d<a):d<c:=xN [] [a,b,c,d] (.L 1 (.v 0) (.v 1) (.E (-1) (.v 2) (.v 1) (.L 1 (.a (.v 3) (.k 1)) (.v 0) .o))) 0 (.a (.v 3) (.k 1)) (.v 2) rfl h h1 h2
theorem N5 {a b c d:Nat} (h:a≤b) (h1:c≤d+a):c≤d+b:=xN [] [a,b,c,d] (.L 1 (.v 0) (.v 1) (.L 1 (.v 2) (.a (.v 3) (.v 0)) .o)) 0 (.v 2) (.a (.v 3) (.v 1)) rfl h h1
theorem N4 {a b c d:Nat} {e:Int} (h:a<b) (h1:c<b) (h2:d<b) (h3:e=(a:Int)∨e=(c:Int)∨e=(d:Int)):0≤e∧e<(b:Int):=⟨h3.elim (λ k1=>xZ [e] [a,b,c,d] (.e (-1) (.v 0) (.c (.v 0)) .o) 0 (.k 0) (.v 0) rfl k1) (λ k2=>k2.elim (λ k3=>xZ [e] [a,b,c,d] (.e (-1) (.v 0) (.c (.v 2)) .o) 0 (.k 0) (.v 0) rfl k3) (λ k4=>xZ [e] [a,b,c,d] (.e (-1) (.v 0) (.c (.v 3)) .o) 0 (.k 0) (.v 0) rfl k4)),h3.elim (λ k5=>xZ [e] [a,b,c,d] (.L 1 (.a (.v 0) (.k 1)) (.v 1) (.e 1 (.v 0) (.c (.v 0)) .o)) 0 (.a (.v 0) (.k 1)) (.c (.v 1)) rfl h k5) (λ k6=>k6.elim (λ k7=>xZ [e] [a,b,c,d] (.L 1 (.a (.v 2) (.k 1)) (.v 1) (.e 1 (.v 0) (.c (.v 2)) .o)) 0 (.a (.v 0) (.k 1)) (.c (.v 1)) rfl h1 k7) (λ k8=>xZ [e] [a,b,c,d] (.L 1 (.a (.v 3) (.k 1)) (.v 1) (.e 1 (.v 0) (.c (.v 3)) .o)) 0 (.a (.v 0) (.k 1)) (.c (.v 1)) rfl h2 k8))⟩
theorem N3 {a b c d e:Nat} (h:a+41*b≤3000000) (h1:c+1≤b) (h2:d≤40) (h3:e≤a+d):e+41*c≤3000000:=xN [] [a,b,c,d,e] (.L 1 (.a (.v 0) (.m 41 (.v 1))) (.k 3000000) (.L 41 (.a (.v 2) (.k 1)) (.v 1) (.L 1 (.v 3) (.k 40) (.L 1 (.v 4) (.a (.v 0) (.v 3)) .o)))) 0 (.a (.v 4) (.m 41 (.v 2))) (.k 3000000) rfl h h1 h2 h3
theorem N0 {a b c d e:Nat} (h:a+b=c+d):e+a+b=e+c+d:=Nat.le_antisymm (xN [] [a,b,c,d,e] (.E 1 (.a (.v 0) (.v 1)) (.a (.v 2) (.v 3)) .o) 0 (.a (.a (.v 4) (.v 0)) (.v 1)) (.a (.a (.v 4) (.v 2)) (.v 3)) rfl h) (xN [] [a,b,c,d,e] (.E (-1) (.a (.v 0) (.v 1)) (.a (.v 2) (.v 3)) .o) 0 (.a (.a (.v 4) (.v 2)) (.v 3)) (.a (.a (.v 4) (.v 0)) (.v 1)) rfl h)
theorem Nz {a b c d e:Nat} (h:a+b=c) (h1:d+e=a+(e+b)) (h2:c≤40):d≤40:=xN [] [a,b,c,d,e] (.E 1 (.a (.v 0) (.v 1)) (.v 2) (.E 1 (.a (.v 3) (.v 4)) (.a (.v 0) (.a (.v 4) (.v 1))) (.L 1 (.v 2) (.k 40) .o))) 0 (.v 3) (.k 40) rfl h h1 h2
theorem Ny {a b c d e:Nat} (h:a<64) (h1:b≤a) (h2:c=b) (h3:d=c) (h4:4096≤e):d≤e:=xN [] [a,b,c,d,e] (.L 1 (.a (.v 0) (.k 1)) (.k 64) (.L 1 (.v 1) (.v 0) (.E 1 (.v 2) (.v 1) (.E 1 (.v 3) (.v 2) (.L 1 (.k 4096) (.v 4) .o))))) 0 (.v 3) (.v 4) rfl h h1 h2 h3 h4
theorem Nx {a b c d e:Nat} (h:a<b) (h1:c<b) (h2:(d:Int)=(a:Int)∧(e:Int)=(c:Int)∨(d:Int)=(c:Int)∧(e:Int)=(a:Int)):e<b:=h2.elim (λ k1=>xN [] [a,b,c,d,e] (.L 1 (.a (.v 2) (.k 1)) (.v 1) (.e 1 (.c (.v 4)) (.c (.v 2)) .o)) 0 (.a (.v 4) (.k 1)) (.v 1) rfl h1 k1.2) (λ k2=>xN [] [a,b,c,d,e] (.L 1 (.a (.v 0) (.k 1)) (.v 1) (.e 1 (.c (.v 4)) (.c (.v 0)) .o)) 0 (.a (.v 4) (.k 1)) (.v 1) rfl h k2.2)
theorem Nw {a b c d e:Nat} (h:a=b+1) (h1:c≤d∧d≤b) (h2:e<d+1-c):c+e<a:=xN [] [a,b,c,d,e,(d+1-c)] (.E (-1) (.v 0) (.a (.v 1) (.k 1)) (.L 1 (.v 3) (.v 1) (.L 1 (.a (.v 4) (.k 1)) (.v 5) (.E 1 (.a (.v 5) (.v 2)) (.a (.v 3) (.k 1)) .o)))) 0 (.a (.a (.v 2) (.v 4)) (.k 1)) (.v 0) rfl h h1.2 h2 (Nat.sub_add_cancel (xN [] [a,b,c,d,e,(d+1-c)] (.L 1 (.v 2) (.v 3) .o) 0 (.v 2) (.a (.v 3) (.k 1)) rfl h1.1))
theorem Nv {a b c d e:Nat} (h:a=b∧c<d) (h1:¬c≤e):d-c+e<d:=xN [] [a,b,c,d,e,(d-c)] (.N 1 (.v 2) (.v 4) (.E 1 (.a (.v 5) (.v 2)) (.v 3) .o)) 0 (.a (.a (.v 5) (.v 4)) (.k 1)) (.v 3) rfl h1 (Nat.sub_add_cancel (xN [] [a,b,c,d,e,(d-c)] (.L 1 (.a (.v 2) (.k 1)) (.v 3) .o) 0 (.v 2) (.v 3) rfl h.2))
theorem Nu {a b c d e:Nat} (h:a=b∧c<d):c-e<d:=xN [] [a,b,c,d,e,(c-e)] (.L 1 (.a (.v 2) (.k 1)) (.v 3) (.L 1 (.v 5) (.v 2) .o)) 0 (.a (.v 5) (.k 1)) (.v 3) rfl h.2 (Nat.sub_le ..)
theorem Nt {a b c d e:Nat} (h:a≤200) (h1:b=a) (h2:c<b) (h3:d=c) (h4:4096≤e):d+1≤e+1:=xN [] [a,b,c,d,e] (.L 1 (.v 0) (.k 200) (.E 1 (.v 1) (.v 0) (.L 1 (.a (.v 2) (.k 1)) (.v 1) (.E 1 (.v 3) (.v 2) (.L 1 (.k 4096) (.v 4) .o))))) 0 (.a (.v 3) (.k 1)) (.a (.v 4) (.k 1)) rfl h h1 h2 h3 h4
theorem Nr {a b c d e:Nat} (h:a≤200) (h1:b=a) (h2:c<b) (h3:d=c) (h4:4096≤e):d≤e:=xN [] [a,b,c,d,e] (.L 1 (.v 0) (.k 200) (.E 1 (.v 1) (.v 0) (.L 1 (.a (.v 2) (.k 1)) (.v 1) (.E 1 (.v 3) (.v 2) (.L 1 (.k 4096) (.v 4) .o))))) 0 (.v 3) (.v 4) rfl h h1 h2 h3 h4
theorem Nq {a b c d e:Nat} (h:a≤b+c) (h1:d+e=a+(e+1)):d≤b+(c+1):=xN [] [a,b,c,d,e] (.L 1 (.v 0) (.a (.v 1) (.v 2)) (.E 1 (.a (.v 3) (.v 4)) (.a (.v 0) (.a (.v 4) (.k 1))) .o)) 0 (.v 3) (.a (.v 1) (.a (.v 2) (.k 1))) rfl h h1
theorem Np {a b c d e:Nat} (h:a≤b) (h1:c=a) (h2:d=c) (h3:d=e):e≤b:=xN [] [a,b,c,d,e] (.L 1 (.v 0) (.v 1) (.E 1 (.v 2) (.v 0) (.E 1 (.v 3) (.v 2) (.E (-1) (.v 3) (.v 4) .o)))) 0 (.v 4) (.v 1) rfl h h1 h2 h3
theorem No {a b c d e f:Nat} (h:a+1≤b) (h1:c≤40) (h2:d≤e+c):d-(f+1)+41*a<e-f+41*b:=by omega
theorem Nn {a b c d e f:Nat} (h:a+b≤40) (h1:c≤b) (h2:d≤a+e) (h3:e<c) (h4:f≤d):f≤40:=xN [] [a,b,c,d,e,f] (.L 1 (.a (.v 0) (.v 1)) (.k 40) (.L 1 (.v 2) (.v 1) (.L 1 (.v 3) (.a (.v 0) (.v 4)) (.L 1 (.a (.v 4) (.k 1)) (.v 2) (.L 1 (.v 5) (.v 3) .o))))) 0 (.v 5) (.k 40) rfl h h1 h2 h3 h4
theorem Nm {a b c d e f:Nat} (h:a=b) (h1:c=d) (h2:(e:Int)=(b:Int)∧(f:Int)=(d:Int)∨(e:Int)=(d:Int)∧(f:Int)=(b:Int)) (h3:e=f):a=c:=h2.elim (λ k1=>Nat.le_antisymm (xN [] [a,b,c,d,e,f] (.E 1 (.v 0) (.v 1) (.E (-1) (.v 2) (.v 3) (.E 1 (.v 4) (.v 5) (.e (-1) (.c (.v 4)) (.c (.v 1)) (.e 1 (.c (.v 5)) (.c (.v 3)) .o))))) 0 (.v 0) (.v 2) rfl h h1 h3 k1.1 k1.2) (xN [] [a,b,c,d,e,f] (.E (-1) (.v 0) (.v 1) (.E 1 (.v 2) (.v 3) (.E (-1) (.v 4) (.v 5) (.e 1 (.c (.v 4)) (.c (.v 1)) (.e (-1) (.c (.v 5)) (.c (.v 3)) .o))))) 0 (.v 2) (.v 0) rfl h h1 h3 k1.1 k1.2)) (λ k2=>Nat.le_antisymm (xN [] [a,b,c,d,e,f] (.E 1 (.v 0) (.v 1) (.E (-1) (.v 2) (.v 3) (.E (-1) (.v 4) (.v 5) (.e 1 (.c (.v 4)) (.c (.v 3)) (.e (-1) (.c (.v 5)) (.c (.v 1)) .o))))) 0 (.v 0) (.v 2) rfl h h1 h3 k2.1 k2.2) (xN [] [a,b,c,d,e,f] (.E (-1) (.v 0) (.v 1) (.E 1 (.v 2) (.v 3) (.E 1 (.v 4) (.v 5) (.e (-1) (.c (.v 4)) (.c (.v 3)) (.e 1 (.c (.v 5)) (.c (.v 1)) .o))))) 0 (.v 2) (.v 0) rfl h h1 h3 k2.1 k2.2))
theorem Nl {a b c d e f:Nat} (h:a=b) (h1:c=d) (h2:(e:Int)=(b:Int)∧(f:Int)=(d:Int)∨(e:Int)=(d:Int)∧(f:Int)=(b:Int)):e=a∧f=c∨e=c∧f=a:=h2.elim (λ k4=>.inl (⟨Nat.le_antisymm (xN [] [a,b,c,d,e,f] (.E (-1) (.v 0) (.v 1) (.e 1 (.c (.v 4)) (.c (.v 1)) .o)) 0 (.v 4) (.v 0) rfl h k4.1) (xN [] [a,b,c,d,e,f] (.E 1 (.v 0) (.v 1) (.e (-1) (.c (.v 4)) (.c (.v 1)) .o)) 0 (.v 0) (.v 4) rfl h k4.1),Nat.le_antisymm (xN [] [a,b,c,d,e,f] (.E (-1) (.v 2) (.v 3) (.e 1 (.c (.v 5)) (.c (.v 3)) .o)) 0 (.v 5) (.v 2) rfl h1 k4.2) (xN [] [a,b,c,d,e,f] (.E 1 (.v 2) (.v 3) (.e (-1) (.c (.v 5)) (.c (.v 3)) .o)) 0 (.v 2) (.v 5) rfl h1 k4.2)⟩)) (λ k5=>.inr (⟨Nat.le_antisymm (xN [] [a,b,c,d,e,f] (.E (-1) (.v 2) (.v 3) (.e 1 (.c (.v 4)) (.c (.v 3)) .o)) 0 (.v 4) (.v 2) rfl h1 k5.1) (xN [] [a,b,c,d,e,f] (.E 1 (.v 2) (.v 3) (.e (-1) (.c (.v 4)) (.c (.v 3)) .o)) 0 (.v 2) (.v 4) rfl h1 k5.1),Nat.le_antisymm (xN [] [a,b,c,d,e,f] (.E (-1) (.v 0) (.v 1) (.e 1 (.c (.v 5)) (.c (.v 1)) .o)) 0 (.v 5) (.v 0) rfl h k5.2) (xN [] [a,b,c,d,e,f] (.E 1 (.v 0) (.v 1) (.e (-1) (.c (.v 5)) (.c (.v 1)) .o)) 0 (.v 0) (.v 5) rfl h k5.2)⟩))
theorem Nk {a b c d e f g:Nat} (h:a=b) (h1:c=b) (h2:d<c∧e<c∧f=g):d<a∧e<a:=⟨xN [] [a,b,c,d,e,f,g] (.E (-1) (.v 0) (.v 1) (.E 1 (.v 2) (.v 1) (.L 1 (.a (.v 3) (.k 1)) (.v 2) .o))) 0 (.a (.v 3) (.k 1)) (.v 0) rfl h h1 h2.1,xN [] [a,b,c,d,e,f,g] (.E (-1) (.v 0) (.v 1) (.E 1 (.v 2) (.v 1) (.L 1 (.a (.v 4) (.k 1)) (.v 2) .o))) 0 (.a (.v 4) (.k 1)) (.v 0) rfl h h1 h2.2.1⟩
theorem Nj {a b d:Nat} {c:Int} (h:(a:Int)+(b:Int)+41*c≤70000) (h1:0≤c) (h2:b=d+1):d≤10000000:=xN [c] [a,b,d] (.l 1 (.a (.a (.c (.v 0)) (.c (.v 1))) (.m 41 (.v 0))) (.k 70000) (.l 41 (.k 0) (.v 0) (.E (-1) (.v 1) (.a (.v 2) (.k 1)) .o))) 0 (.v 2) (.k 10000000) rfl h h1 h2
theorem Ni {a b d:Nat} {c:Int} (h:(a:Int)+(b:Int)+41*c≤70000) (h1:b=d+1):((a+1:Nat):Int)+(d:Int)+41*c≤70000:=xZ [c] [a,b,d] (.l 1 (.a (.a (.c (.v 0)) (.c (.v 1))) (.m 41 (.v 0))) (.k 70000) (.E (-1) (.v 1) (.a (.v 2) (.k 1)) .o)) 0 (.a (.a (.c (.a (.v 0) (.k 1))) (.c (.v 2))) (.m 41 (.v 0))) (.k 70000) rfl h h1
theorem Nh {a b d:Nat} {c:Int} (h:(a:Int)+(b:Int)+41*c≤70000) (h1:b=d+1):(a:Int)+(d:Int)+41*c+1≤70000:=xZ [c] [a,b,d] (.l 1 (.a (.a (.c (.v 0)) (.c (.v 1))) (.m 41 (.v 0))) (.k 70000) (.E (-1) (.v 1) (.a (.v 2) (.k 1)) .o)) 0 (.a (.a (.a (.c (.v 0)) (.c (.v 2))) (.m 41 (.v 0))) (.k 1)) (.k 70000) rfl h h1
theorem I0 {a b d:Nat} {c:Int} (h:(a:Int)=(b:Int)+41*c) (h1:0≤c) (h2:b=d+1):((d:Int)+41*c).toNat<a:=xN [c] [a,b,d,(((d:Int)+41*c).toNat)] (.e (-1) (.c (.v 0)) (.a (.c (.v 1)) (.m 41 (.v 0))) (.E (-1) (.v 1) (.a (.v 2) (.k 1)) (.e 1 (.c (.v 3)) (.a (.c (.v 2)) (.m 41 (.v 0))) .o))) 0 (.a (.v 3) (.k 1)) (.v 0) rfl h h2 (Int.toNat_of_nonneg (xZ [c] [a,b,d,(((d:Int)+41*c).toNat)] (.l 41 (.k 0) (.v 0) .o) 0 (.k 0) (.a (.c (.v 2)) (.m 41 (.v 0))) rfl h1))
theorem Ng {a b d e:Nat} {c f:Int} (h:(a:Int)=(b:Int)+41*c) (h1:b=d+1) (h2:e≤40) (h3:f+1≤c) (h4:0≤f):(((d+e:Nat):Int)+41*f).toNat<a:=xN [c,f] [a,b,d,e,((((d+e:Nat):Int)+41*f).toNat)] (.e (-1) (.c (.v 0)) (.a (.c (.v 1)) (.m 41 (.v 0))) (.E (-1) (.v 1) (.a (.v 2) (.k 1)) (.L 1 (.v 3) (.k 40) (.l 41 (.a (.v 1) (.k 1)) (.v 0) (.e 1 (.c (.v 4)) (.a (.c (.a (.v 2) (.v 3))) (.m 41 (.v 1))) .o))))) 0 (.a (.v 4) (.k 1)) (.v 0) rfl h h1 h2 h3 (Int.toNat_of_nonneg (xZ [c,f] [a,b,d,e,((((d+e:Nat):Int)+41*f).toNat)] (.l 41 (.k 0) (.v 1) .o) 0 (.k 0) (.a (.c (.a (.v 2) (.v 3))) (.m 41 (.v 1))) rfl h4))
theorem Iz {a b e:Nat} {c d:Int} (h:a<b) (h1:c=d-(b:Int)+(a:Int)) (h2:(e:Int)+d≤1600):((e+1:Nat):Int)+c≤1600:=xZ [c,d] [a,b,e] (.L 1 (.a (.v 0) (.k 1)) (.v 1) (.e 1 (.v 0) (.a (.s (.v 1) (.c (.v 1))) (.c (.v 0))) (.l 1 (.a (.c (.v 2)) (.v 1)) (.k 1600) .o))) 0 (.a (.c (.a (.v 2) (.k 1))) (.v 0)) (.k 1600) rfl h h1 h2
theorem Nf {a b e f g:Nat} {c d:Int} (h:a<b) (h1:c=d-(b:Int)+(a:Int)) (h2:e≤40) (h3:(f:Int)+(g:Int)+41*d≤70000):(f:Int)+((g+e:Nat):Int)+41*c≤70000:=xZ [c,d] [a,b,e,f,g] (.L 41 (.a (.v 0) (.k 1)) (.v 1) (.e 41 (.v 0) (.a (.s (.v 1) (.c (.v 1))) (.c (.v 0))) (.L 1 (.v 2) (.k 40) (.l 1 (.a (.a (.c (.v 3)) (.c (.v 4))) (.m 41 (.v 1))) (.k 70000) .o)))) 0 (.a (.a (.c (.v 3)) (.c (.a (.v 4) (.v 2)))) (.m 41 (.v 0))) (.k 70000) rfl h h1 h2 h3
theorem Nd {a c:Nat} {b:Int}:(a:Int)+41*b≤(c:Int)+(a:Int)+41*b:=xZ [b] [a,c] .o 0 (.a (.c (.v 0)) (.m 41 (.v 0))) (.a (.a (.c (.v 1)) (.c (.v 0))) (.m 41 (.v 0))) rfl
theorem Iy {b:Nat} {a:Int} (h:0≤a∧a<(b:Int)):a.toNat<b:=xN [a] [b,(a.toNat)] (.l 1 (.a (.v 0) (.k 1)) (.c (.v 0)) (.e 1 (.c (.v 1)) (.v 0) .o)) 0 (.a (.v 1) (.k 1)) (.v 0) rfl h.2 (Int.toNat_of_nonneg (xZ [a] [b,(a.toNat)] (.l 1 (.k 0) (.v 0) .o) 0 (.k 0) (.v 0) rfl h.1))
theorem Nc {b:Nat} {a:Int} (h:0≤a∧a≤(b:Int)*1000000) (h1:b≤1000):0≤a∧a≤1000*1000000:=by grind
theorem Nb {b:Nat} {a:Int} (h:0≤a) (h1:(b:Int)+a≤1600):b≤10000:=xN [a] [b] (.l 1 (.k 0) (.v 0) (.l 1 (.a (.c (.v 0)) (.v 0)) (.k 1600) .o)) 0 (.v 0) (.k 10000) rfl h h1
theorem Na {b:Nat} {a:Int} (h:0≤a) (h1:(b:Int)+a≤1600):b≤10000000:=xN [a] [b] (.l 1 (.k 0) (.v 0) (.l 1 (.a (.c (.v 0)) (.v 0)) (.k 1600) .o)) 0 (.v 0) (.k 10000000) rfl h h1
theorem M9 {b:Nat} {a:Int} (h:0≤a) (h1:a<(b:Int)):0≤a∧a<((b+1:Nat):Int):=⟨xZ [a] [b] (.l 1 (.k 0) (.v 0) .o) 0 (.k 0) (.v 0) rfl h,xZ [a] [b] (.l 1 (.a (.v 0) (.k 1)) (.c (.v 0)) .o) 0 (.a (.v 0) (.k 1)) (.c (.a (.v 0) (.k 1))) rfl h1⟩
theorem Ix {b:Nat} {a:Int} (h:0≤a) (h1:a<(b:Int)):a.toNat<b:=xN [a] [b,(a.toNat)] (.l 1 (.a (.v 0) (.k 1)) (.c (.v 0)) (.e 1 (.c (.v 1)) (.v 0) .o)) 0 (.a (.v 1) (.k 1)) (.v 0) rfl h1 (Int.toNat_of_nonneg (xZ [a] [b,(a.toNat)] (.l 1 (.k 0) (.v 0) .o) 0 (.k 0) (.v 0) rfl h))
theorem M7 {b:Nat} {a:Int} (h:0≤a) (h1:a≤(b:Int)) (h2:¬a=(b:Int)):a.toNat<b:=(Int.lt_or_gt_of_ne h2).elim (λ k1=>xN [a] [b,(a.toNat)] (.l 1 (.a (.v 0) (.k 1)) (.c (.v 0)) (.e 1 (.c (.v 1)) (.v 0) .o)) 0 (.a (.v 1) (.k 1)) (.v 0) rfl k1 (Int.toNat_of_nonneg (xZ [a] [b,(a.toNat)] (.l 1 (.k 0) (.v 0) .o) 0 (.k 0) (.v 0) rfl h))) (λ k2=>xN [a] [b,(a.toNat)] (.l 1000 (.v 0) (.c (.v 0)) (.l 999 (.a (.c (.v 0)) (.k 1)) (.v 0) (.e 1 (.c (.v 1)) (.v 0) .o))) 0 (.a (.v 1) (.k 1)) (.v 0) rfl h1 k2 (Int.toNat_of_nonneg (xZ [a] [b,(a.toNat)] (.l 999 (.v 0) (.c (.v 0)) (.l 1000 (.a (.c (.v 0)) (.k 1)) (.v 0) .o)) 0 (.k 0) (.v 0) rfl h1 k2)))
theorem Ez {b:Nat} {a:Int} (h:0≤a):((((b:Int)+41*a).toNat:Nat):Int)=(b:Int)+41*a:=Int.le_antisymm (xZ [a] [b,(((b:Int)+41*a).toNat)] (.e 1 (.c (.v 1)) (.a (.c (.v 0)) (.m 41 (.v 0))) .o) 0 (.c (.v 1)) (.a (.c (.v 0)) (.m 41 (.v 0))) rfl (Int.toNat_of_nonneg (xZ [a] [b,(((b:Int)+41*a).toNat)] (.l 41 (.k 0) (.v 0) .o) 0 (.k 0) (.a (.c (.v 0)) (.m 41 (.v 0))) rfl h))) (xZ [a] [b,(((b:Int)+41*a).toNat)] (.e (-1) (.c (.v 1)) (.a (.c (.v 0)) (.m 41 (.v 0))) .o) 0 (.a (.c (.v 0)) (.m 41 (.v 0))) (.c (.v 1)) rfl (Int.toNat_of_nonneg (xZ [a] [b,(((b:Int)+41*a).toNat)] (.l 41 (.k 0) (.v 0) .o) 0 (.k 0) (.a (.c (.v 0)) (.m 41 (.v 0))) rfl h)))
theorem M0 {b:Nat} {a:Int} (h:0≤a):((a.toNat+b:Nat):Int)=a+(b:Int):=Int.le_antisymm (xZ [a] [b,(a.toNat)] (.e 1 (.c (.v 1)) (.v 0) .o) 0 (.c (.a (.v 1) (.v 0))) (.a (.v 0) (.c (.v 0))) rfl (Int.toNat_of_nonneg (xZ [a] [b,(a.toNat)] (.l 1 (.k 0) (.v 0) .o) 0 (.k 0) (.v 0) rfl h))) (xZ [a] [b,(a.toNat)] (.e (-1) (.c (.v 1)) (.v 0) .o) 0 (.a (.v 0) (.c (.v 0))) (.c (.a (.v 1) (.v 0))) rfl (Int.toNat_of_nonneg (xZ [a] [b,(a.toNat)] (.l 1 (.k 0) (.v 0) .o) 0 (.k 0) (.v 0) rfl h)))
theorem Mz {b:Nat} {a:Int} (h:1≤a∧a≤1+(b:Int)):1≤1+a∧1+a≤1+((b+1:Nat):Int):=⟨xZ [a] [b] (.l 1 (.k 1) (.v 0) .o) 0 (.k 1) (.a (.k 1) (.v 0)) rfl h.1,xZ [a] [b] (.l 1 (.v 0) (.a (.k 1) (.c (.v 0))) .o) 0 (.a (.k 1) (.v 0)) (.a (.k 1) (.c (.a (.v 0) (.k 1)))) rfl h.2⟩
theorem My {b:Nat} {a:Int} (h:1≤a∧a≤511) (h1:a+1≤(b:Int)) (h2:b≤2^8):1≤1+(a+(a+0))∧1+(a+(a+0))≤511:=⟨xZ [a] [b] (.l 2 (.k 1) (.v 0) .o) 0 (.k 1) (.a (.k 1) (.a (.v 0) (.a (.v 0) (.k 0)))) rfl h.1,xZ [a] [b] (.l 2 (.a (.v 0) (.k 1)) (.c (.v 0)) (.L 2 (.v 0) (.k (2^8)) .o)) 0 (.a (.k 1) (.a (.v 0) (.a (.v 0) (.k 0)))) (.k 511) rfl h1 h2⟩
theorem Mx {b:Nat} {a:Int} (h:2*a≤(b:Int)*(b:Int)) (h1:(b:Int)*(b:Int)≤1600):a≤800:=by grind
theorem Mw {b:Nat} {a:Int} (h:2*a≤(b:Int)*(b:Int)):2*(a+((b:Int)+0))≤(b:Int)*(b:Int)+2*(b:Int)+1:=by grind
theorem Mv {b:Nat} {a:Int} (h:a<(b:Int)) (h1:b≤10000000):a<2^63:=xZ [a] [b] (.l 1 (.a (.v 0) (.k 1)) (.c (.v 0)) (.L 1 (.v 0) (.k 10000000) .o)) 0 (.a (.v 0) (.k 1)) (.k (2^63)) rfl h h1
theorem Mu {b:Nat} {a:Int} (h:a≠(b:Int)) (h1:0≤a∧a≤(b:Int)):a.toNat<b:=(Int.lt_or_gt_of_ne h).elim (λ k1=>xN [a] [b,(a.toNat)] (.l 1 (.a (.v 0) (.k 1)) (.c (.v 0)) (.e 1 (.c (.v 1)) (.v 0) .o)) 0 (.a (.v 1) (.k 1)) (.v 0) rfl k1 (Int.toNat_of_nonneg (xZ [a] [b,(a.toNat)] (.l 1 (.k 0) (.v 0) .o) 0 (.k 0) (.v 0) rfl h1.1))) (λ k2=>xN [a] [b,(a.toNat)] (.l 1000 (.v 0) (.c (.v 0)) (.l 999 (.a (.c (.v 0)) (.k 1)) (.v 0) (.e 1 (.c (.v 1)) (.v 0) .o))) 0 (.a (.v 1) (.k 1)) (.v 0) rfl h1.2 k2 (Int.toNat_of_nonneg (xZ [a] [b,(a.toNat)] (.l 999 (.v 0) (.c (.v 0)) (.l 1000 (.a (.c (.v 0)) (.k 1)) (.v 0) .o)) 0 (.k 0) (.v 0) rfl h1.2 k2)))
theorem Iw {b:Nat} {a:Int} (h:a≤1+(b:Int)):a≤1+((b+1:Nat):Int):=xZ [a] [b] (.l 1 (.v 0) (.a (.k 1) (.c (.v 0))) .o) 0 (.v 0) (.a (.k 1) (.c (.a (.v 0) (.k 1)))) rfl h
theorem Mt {b:Nat} {a:Int} (h:a≤800) (h1:b≤40):(b:Int)+0+41*a≤70000:=xZ [a] [b] (.l 41 (.v 0) (.k 800) (.L 1 (.v 0) (.k 40) .o)) 0 (.a (.a (.c (.v 0)) (.k 0)) (.m 41 (.v 0))) (.k 70000) rfl h h1
theorem Ms {b:Nat} {a:Int}:a+(b:Int)+1=a+((b+1:Nat):Int):=Int.le_antisymm (xZ [a] [b] .o 0 (.a (.a (.v 0) (.c (.v 0))) (.k 1)) (.a (.v 0) (.c (.a (.v 0) (.k 1)))) rfl) (xZ [a] [b] .o 0 (.a (.v 0) (.c (.a (.v 0) (.k 1)))) (.a (.a (.v 0) (.c (.v 0))) (.k 1)) rfl)
theorem Mr {b c:Nat} {a:Int} (h:0≤a) (h1:(b:Int)+41*a≤70000) (h2:c≤40):b+c≤10000000:=xN [a] [b,c] (.l 41 (.k 0) (.v 0) (.l 1 (.a (.c (.v 0)) (.m 41 (.v 0))) (.k 70000) (.L 1 (.v 1) (.k 40) .o))) 0 (.a (.v 0) (.v 1)) (.k 10000000) rfl h h1 h2
theorem Mq {b c:Nat} {a:Int} (h:0≤a):(((((b+c:Nat):Int)+41*a).toNat:Nat):Int)=((b+c:Nat):Int)+41*a:=Int.le_antisymm (xZ [a] [b,c,((((b+c:Nat):Int)+41*a).toNat)] (.e 1 (.c (.v 2)) (.a (.c (.a (.v 0) (.v 1))) (.m 41 (.v 0))) .o) 0 (.c (.v 2)) (.a (.c (.a (.v 0) (.v 1))) (.m 41 (.v 0))) rfl (Int.toNat_of_nonneg (xZ [a] [b,c,((((b+c:Nat):Int)+41*a).toNat)] (.l 41 (.k 0) (.v 0) .o) 0 (.k 0) (.a (.c (.a (.v 0) (.v 1))) (.m 41 (.v 0))) rfl h))) (xZ [a] [b,c,((((b+c:Nat):Int)+41*a).toNat)] (.e (-1) (.c (.v 2)) (.a (.c (.a (.v 0) (.v 1))) (.m 41 (.v 0))) .o) 0 (.a (.c (.a (.v 0) (.v 1))) (.m 41 (.v 0))) (.c (.v 2)) rfl (Int.toNat_of_nonneg (xZ [a] [b,c,((((b+c:Nat):Int)+41*a).toNat)] (.l 41 (.k 0) (.v 0) .o) 0 (.k 0) (.a (.c (.a (.v 0) (.v 1))) (.m 41 (.v 0))) rfl h)))
theorem Mp {b c:Nat} {a:Int} (h:a=(b:Int)) (h1:a=(c:Int)):b=c:=Nat.le_antisymm (xN [a] [b,c] (.e (-1) (.v 0) (.c (.v 0)) (.e 1 (.v 0) (.c (.v 1)) .o)) 0 (.v 0) (.v 1) rfl h h1) (xN [a] [b,c] (.e 1 (.v 0) (.c (.v 0)) (.e (-1) (.v 0) (.c (.v 1)) .o)) 0 (.v 1) (.v 0) rfl h h1)
theorem Iv {b c:Nat} {a:Int} (h:a=(b:Int)) (h1:a=(c:Int)):c=b:=Nat.le_antisymm (xN [a] [b,c] (.e 1 (.v 0) (.c (.v 0)) (.e (-1) (.v 0) (.c (.v 1)) .o)) 0 (.v 1) (.v 0) rfl h h1) (xN [a] [b,c] (.e (-1) (.v 0) (.c (.v 0)) (.e 1 (.v 0) (.c (.v 1)) .o)) 0 (.v 0) (.v 1) rfl h h1)
theorem Mo {b c:Nat} {a:Int} (h:a.toNat<b) (h1:b≤c+1):a.toNat≤c:=xN [a] [b,c,(a.toNat)] (.L 1 (.a (.v 2) (.k 1)) (.v 0) (.L 1 (.v 0) (.a (.v 1) (.k 1)) .o)) 0 (.v 2) (.v 1) rfl h h1
theorem Mn {b c:Nat} {a:Int} (h:a.toNat<b) (h1:c≤a.toNat):c≤b:=xN [a] [b,c,(a.toNat)] (.L 1 (.a (.v 2) (.k 1)) (.v 0) (.L 1 (.v 1) (.v 2) .o)) 0 (.v 1) (.v 0) rfl h h1
theorem Mm {c:Nat} {a b:Int} (h:a=1+b) (h1:(c:Int)=b) (h2:a≤1534):c+1≤a.toNat∧a.toNat≤1534:=⟨xN [a,b] [c,(a.toNat)] (.e (-1) (.v 0) (.a (.k 1) (.v 1)) (.e 1 (.c (.v 0)) (.v 1) (.e (-1) (.c (.v 1)) (.v 0) .o))) 0 (.a (.v 0) (.k 1)) (.v 1) rfl h h1 (Int.toNat_of_nonneg (xZ [a,b] [c,(a.toNat)] (.e (-1) (.v 0) (.a (.k 1) (.v 1)) (.e 1 (.c (.v 0)) (.v 1) .o)) 0 (.k 0) (.v 0) rfl h h1)),xN [a,b] [c,(a.toNat)] (.l 1 (.v 0) (.k 1534) (.e 1 (.c (.v 1)) (.v 0) .o)) 0 (.v 1) (.k 1534) rfl h2 (Int.toNat_of_nonneg (xZ [a,b] [c,(a.toNat)] (.e (-1) (.v 0) (.a (.k 1) (.v 1)) (.e 1 (.c (.v 0)) (.v 1) .o)) 0 (.k 0) (.v 0) rfl h h1))⟩
theorem Ml {c:Nat} {a b:Int}:(((a-b).toNat:Nat):Int)-(c:Int)-1=(((a-b).toNat:Nat):Int)-((c+1:Nat):Int):=Int.le_antisymm (xZ [a,b] [c,((a-b).toNat)] .o 0 (.s (.s (.c (.v 1)) (.c (.v 0))) (.k 1)) (.s (.c (.v 1)) (.c (.a (.v 0) (.k 1)))) rfl) (xZ [a,b] [c,((a-b).toNat)] .o 0 (.s (.c (.v 1)) (.c (.a (.v 0) (.k 1)))) (.s (.s (.c (.v 1)) (.c (.v 0))) (.k 1)) rfl)
theorem Mj {d:Nat} {a b c:Int} (h:0≤a∧a≤b) (h1:0≤c∧c≤(d:Int)*b):0≤a+c∧a+c≤(d:Int)*b+b:=by omega
noncomputable def Kx:List Stmt→Nat→Stmt
 | [],_=>.Pass ⟨0,0,0,0⟩
 | s::_,0=>s
 | _::r,n+1=>Kx r n
noncomputable def Vr:Stmt→List Stmt
 | .ClassDef _ _ _ body _ _ _ _ _ _ _=>body
 | _=>[]
noncomputable def H4:Stmt→Arguments
 | .FunctionDef _ args _ _ _ _ _ _ _ _=>args
 | _=>⟨[],[],none,[],[],none,[]⟩
noncomputable def bE:Stmt→List Stmt
 | .FunctionDef _ _ body _ _ _ _ _ _ _=>body
 | _=>[]
noncomputable def jM:Stmt→Scope
 | .FunctionDef _ _ _ _ _ _ scope _ _ _=>scope
 | _=>default
noncomputable def bI (p:Program) (i:Nat):Stmt:=Kx p.main.body i
noncomputable def aG (p:Program) (i j:Nat):Stmt:=Kx (Vr (bI p i)) j
noncomputable def mV:Nat→List Stmt→List Stmt
 | 0,l=>l
 | _+1,[]=>[]
 | n+1,_::r=>mV n r
noncomputable def qM:Nat→List Stmt→List Stmt
 | 0,_=>[]
 | _+1,[]=>[]
 | n+1,s::r=>s::qM n r
noncomputable def fW:Life:=⟨[],[],[],0,[],[],false,⟨[]⟩,[],0,false,false,false,0,[2000,10,10],false,0,true,[],[],0,false⟩
noncomputable def sL (l:List Nat):Str:=⟨⟨l⟩⟩
noncomputable def lf (o:Obj):BT:=.node o .nil .nil
noncomputable def nd (o:Obj) (l r:BT):BT:=.node o l r
def z0:Str:=sL [60,109,111,100,117,108,101,62]
def z1:Str:=sL [47,99,108,97,105,109,47,99,117,116,46,112,121]
def z2:Str:=sL [95,95,109,97,105,110,95,95]
def z3:Str:=sL [95,95,110,97,109,101,95,95]
def z4:Str:=sL [97,108,105,107,101,104,101,97,112,46,97,110,97,108,121,115,101,115]
def z5:Str:=sL [95,95,100,111,99,95,95]
def z6:Str:=sL [95,95,112,97,99,107,97,103,101,95,95]
def z7:Str:=sL [95,95,108,111,97,100,101,114,95,95]
def z8:Str:=sL [95,95,115,112,101,99,95,95]
def z9:Str:=sL [95,95,97,110,110,111,116,97,116,105,111,110,115,95,95]
def z10:Str:=sL [95,95,98,117,105,108,116,105,110,115,95,95]
def z11:Str:=sL [95,95,102,105,108,101,95,95]
def z12:Str:=sL [95,95,99,97,99,104,101,100,95,95]
def z13:Str:=sL [95,119,97,108,108]
def z14:Str:=sL [76,101,97,115,116,68,101,112,116,104]
def z15:Str:=sL [76,101,97,115,116,83,105,122,101]
def z16:Str:=sL [107]
def z17:Str:=sL [95,95,109,111,100,117,108,101,95,95]
def z18:Str:=sL [95,95,113,117,97,108,110,97,109,101,95,95]
def z19:Str:=sL [95,95,102,105,114,115,116,108,105,110,101,110,111,95,95]
def z20:Str:=sL [111,102,95,110,111,100,101]
def z21:Str:=sL [106,111,105,110,101,100]
def z22:Str:=sL [95,95,115,116,97,116,105,99,95,97,116,116,114,105,98,117,116,101,115,95,95]
def z23:Str:=sL [115,101,108,102]
def z24:Str:=sL [111,112]
def z25:Str:=sL [118,97,108,117,101,115]
def z26:Str:=sL [76,101,97,115,116,68,101,112,116,104,46,111,102,95,110,111,100,101]
def z27:Str:=sL [111,110,101]
def z28:Str:=sL [111,116,104,101,114]
def z29:Str:=sL [76,101,97,115,116,68,101,112,116,104,46,106,111,105,110,101,100]
def z30:Str:=sL [95,95,100,105,99,116,95,95]
def z31:Str:=sL [95,95,119,101,97,107,114,101,102,95,95]
def z32:Str:=sL [76,101,97,115,116,83,105,122,101,46,111,102,95,110,111,100,101]
def z33:Str:=sL [116,121,112,101,46,95,95,115,117,98,99,108,97,115,115,101,115,95,95,46,69,120,99,101,112,116,105,111,110,46,48]
def z34:Str:=sL [116,121,112,101,46,95,95,115,117,98,99,108,97,115,115,101,115,95,95,46,69,120,99,101,112,116,105,111,110,46,110]
def z35:Str:=sL [97,108,105,107,101,104,101,97,112,46,101,114,114,111,114,115]
def z36:Str:=sL [75,101,101,112,101,114]
def z37:Str:=sL [72,101,97,112,69,114,114,111,114]
def z38:Str:=sL [95,95,105,110,105,116,95,95]
def z39:Str:=sL [114,101,110,101,119,101,100]
def z40:Str:=sL [118,97,108,117,101]
def z41:Str:=sL [98,101,103,117,110]
def z42:Str:=sL [114,101,99,107,111,110,101,100]
def z43:Str:=sL [115,101,116,116,108,101]
def z44:Str:=sL [99,108,97,115,104,101,115]
def z45:Str:=sL [102,111,108,100]
def z46:Str:=sL [104,101,97,112]
def z47:Str:=sL [97,110,97,108,121,115,105,115]
def z48:Str:=sL [75,101,101,112,101,114,46,95,95,105,110,105,116,95,95]
def z49:Str:=sL [75,101,101,112,101,114,46,114,101,110,101,119,101,100]
def z50:Str:=sL [99]
def z51:Str:=sL [75,101,101,112,101,114,46,118,97,108,117,101]
def z52:Str:=sL [102,111,117,110,100]
def z53:Str:=sL [107,101,112,116]
def z54:Str:=sL [75,101,101,112,101,114,46,98,101,103,117,110]
def z55:Str:=sL [75,101,101,112,101,114,46,114,101,99,107,111,110,101,100]
def z56:Str:=sL [75,101,101,112,101,114,46,115,101,116,116,108,101]
def z57:Str:=sL [75,101,101,112,101,114,46,99,108,97,115,104,101,115]
def z58:Str:=sL [75,101,101,112,101,114,46,102,111,108,100]
def z59:Str:=sL [98,97,99,107,115]
def z60:Str:=sL [116,111,108,100]
def z61:Str:=sL [95,95,99,108,97,115,115,99,101,108,108,95,95]
def z62:Str:=sL [95,95,99,108,97,115,115,95,95]
def z63:Str:=sL [119,104,97,116]
def z64:Str:=sL [72,101,97,112,69,114,114,111,114,46,95,95,105,110,105,116,95,95]
def z65:Str:=sL [72,101,97,112,69,114,114,111,114,46,116,111,108,100]
def z66:Str:=sL [97,108,105,107,101,104,101,97,112,46,117,110,105,111,110,115]
def z67:Str:=sL [84,101,114,109,70,97,117,108,116]
def z68:Str:=sL [105,115,95,111,112]
def z69:Str:=sL [66,97,110,107]
def z70:Str:=sL [97,108,105,107,101,104,101,97,112,46,116,101,114,109,115]
def z71:Str:=sL [115,105,122,101]
def z72:Str:=sL [116,97,107,101]
def z73:Str:=sL [114,101,113,117,105,114,101]
def z74:Str:=sL [112,117,116]
def z75:Str:=sL [112,117,116,95,97,108,108]
def z76:Str:=sL [99,117,116]
def z77:Str:=sL [107,105,100,115]
def z78:Str:=sL [110,111,100,101]
def z79:Str:=sL [116,101,114,109]
def z80:Str:=sL [119,101,105,103,104,116]
def z81:Str:=sL [100,101,112,116,104]
def z82:Str:=sL [115,101,101,107]
def z83:Str:=sL [66,97,110,107,46,95,95,105,110,105,116,95,95]
def z84:Str:=sL [66,97,110,107,46,115,105,122,101]
def z85:Str:=sL [66,97,110,107,46,116,97,107,101]
def z86:Str:=sL [66,97,110,107,46,114,101,113,117,105,114,101]
def z87:Str:=sL [116]
def z88:Str:=sL [66,97,110,107,46,112,117,116]
def z89:Str:=sL [66,97,110,107,46,112,117,116,95,97,108,108]
def z90:Str:=sL [109,97,110,121]
def z91:Str:=sL [66,97,110,107,46,99,117,116]
def z92:Str:=sL [110]
def z93:Str:=sL [66,97,110,107,46,111,112]
def z94:Str:=sL [66,97,110,107,46,107,105,100,115]
def z95:Str:=sL [66,97,110,107,46,110,111,100,101]
def z96:Str:=sL [66,97,110,107,46,116,101,114,109]
def z97:Str:=sL [66,97,110,107,46,119,101,105,103,104,116]
def z98:Str:=sL [66,97,110,107,46,100,101,112,116,104]
def z99:Str:=sL [66,97,110,107,46,115,101,101,107]
def z100:Str:=sL [100,101,112,116,104,115]
def z101:Str:=sL [110,111,100,101,115]
def z102:Str:=sL [110,117,109,98,101,114,115]
def z103:Str:=sL [119,101,105,103,104,116,115]
def z104:Str:=sL [97,108,105,107,101,104,101,97,112,46,104,101,97,112]
def z105:Str:=sL [85,110,105,111,110,115]
def z106:Str:=sL [109,97,107,101]
def z107:Str:=sL [102,105,110,100]
def z108:Str:=sL [109,101,114,103,101]
def z109:Str:=sL [109,101,109,98,101,114,115]
def z110:Str:=sL [99,108,97,115,115,101,115]
def z111:Str:=sL [108,111,103]
def z112:Str:=sL [98,97,99,107]
def z113:Str:=sL [85,110,105,111,110,115,46,95,95,105,110,105,116,95,95]
def z114:Str:=sL [85,110,105,111,110,115,46,109,97,107,101]
def z115:Str:=sL [85,110,105,111,110,115,46,115,105,122,101]
def z116:Str:=sL [97]
def z117:Str:=sL [85,110,105,111,110,115,46,102,105,110,100]
def z118:Str:=sL [98]
def z119:Str:=sL [103,111,110,101]
def z120:Str:=sL [85,110,105,111,110,115,46,109,101,114,103,101]
def z121:Str:=sL [85,110,105,111,110,115,46,109,101,109,98,101,114,115]
def z122:Str:=sL [85,110,105,111,110,115,46,99,108,97,115,115,101,115]
def z123:Str:=sL [85,110,105,111,110,115,46,108,111,103]
def z124:Str:=sL [85,110,105,111,110,115,46,98,97,99,107]
def z125:Str:=sL [85,110,105,111,110,115,46,99,117,116]
def z126:Str:=sL [97,98,111,118,101]
def z127:Str:=sL [108,111,116,115]
def z128:Str:=sL [109,101,114,103,101,100]
def z129:Str:=sL [108,97,119,95,115,97,48,48,51,55,95,48,49]
def z130:Str:=sL [72,101,97,112]
def z131:Str:=sL [95,108,97,119,95,98,101,97,100]
def z132:Str:=sL [95,108,97,119,95,108,97,105,100]
def z133:Str:=sL [95,108,97,119,95,104,111,109,101,115]
def z134:Str:=sL [95,108,97,119,95,108,101,97,115,116]
def z135:Str:=sL [97,100,100]
def z136:Str:=sL [108,111,111,107,95,97,116]
def z137:Str:=sL [97,114,101,95,108,105,107,101]
def z138:Str:=sL [106,111,105,110]
def z139:Str:=sL [105,115,95,115,101,116,116,108,101,100]
def z140:Str:=sL [110,111,100,101,115,95,111,102]
def z141:Str:=sL [109,97,110,121,95,110,111,100,101,115]
def z142:Str:=sL [117,115,101,114,115]
def z143:Str:=sL [72,101,97,112,46,95,95,105,110,105,116,95,95]
def z144:Str:=sL [72,101,97,112,46,115,105,122,101]
def z145:Str:=sL [72,101,97,112,46,110,111,100,101]
def z146:Str:=sL [72,101,97,112,46,97,100,100]
def z147:Str:=sL [72,101,97,112,46,112,117,116]
def z148:Str:=sL [72,101,97,112,46,108,111,111,107,95,97,116]
def z149:Str:=sL [72,101,97,112,46,102,105,110,100]
def z150:Str:=sL [72,101,97,112,46,97,114,101,95,108,105,107,101]
def z151:Str:=sL [114,101,97,115,111,110]
def z152:Str:=sL [72,101,97,112,46,109,101,114,103,101]
def z153:Str:=sL [72,101,97,112,46,106,111,105,110]
def z154:Str:=sL [72,101,97,112,46,115,101,116,116,108,101]
def z155:Str:=sL [72,101,97,112,46,105,115,95,115,101,116,116,108,101,100]
def z156:Str:=sL [72,101,97,112,46,99,108,97,115,115,101,115]
def z157:Str:=sL [72,101,97,112,46,109,101,109,98,101,114,115]
def z158:Str:=sL [72,101,97,112,46,110,111,100,101,115,95,111,102]
def z159:Str:=sL [72,101,97,112,46,109,97,110,121,95,110,111,100,101,115]
def z160:Str:=sL [72,101,97,112,46,115,101,101,107]
def z161:Str:=sL [72,101,97,112,46,117,115,101,114,115]
def z162:Str:=sL [98,97,110,107]
def z163:Str:=sL [101,100,103,101,115]
def z164:Str:=sL [102,111,114,101,115,116]
def z165:Str:=sL [107,110,111,119,110]
def z166:Str:=sL [117,110,105,111,110,115]
def z167:Str:=sL [119,97,105,116,105,110,103]
def z168:Str:=sL [99,104,97,105,110]
def z169:Str:=sL [98,101,97,100]
def z170:Str:=sL [114,111,119,115]
def z171:Str:=sL [95,108,97,119,95,98,117,105,108,116]
def z172:Str:=sL [95,108,97,119,95,105,115,95,116,111,108,100]
def z173:Str:=sL [108,97,119]
def z174:Str:=sL [115,112,111,116]
def z175:Str:=sL [108,97,112]
def z176:Str:=sL [109,97,120]
def z177:Str:=sL [109,105,110]
def z178:Str:=sL [115,117,109]
def z179:Str:=sL [103,101,116]
def z180:Str:=sL [115,111,114,116,101,100]
def z181:Str:=sL [107,105,100]
def z182:Str:=sL [46,48]
def z183:Str:=sL [102,97,115,116]
def z184:Str:=sL [114,111,119]
def z185:Str:=sL [108,105,115,116]
def z186:Str:=sL [108,101,110]
def z187:Str:=sL [112,111,112]
def z188:Str:=sL [117,115,101,114]
def z189:Str:=sL [108,97,116,101]
def z190:Str:=sL [97,112,112,101,110,100]
def z191:Str:=sL [69,120,99,101,112,116,105,111,110]
def z192:Str:=sL [115,117,112,101,114]
def z193:Str:=sL [116,101,120,116]
def z194:Str:=sL []
def z195:Str:=sL [115,105,103,110]
def z196:Str:=sL [105,115,115,112,97,99,101]
def z197:Str:=sL [40,41,91,93,123,125,44,58]
def z198:Str:=sL [116,117,112,108,101]
def z199:Str:=sL [110,111,32,116,101,114,109,32,104,97,115,32,116,104,101,32,110,117,109,98,101,114,32]
def z200:Str:=sL [63]
def z201:Str:=sL [32,105,115,32,110,111,32,111,112,32,111,102,32,97,32,103,114,111,117,110,100,32,116,101,114,109]
def z202:Str:=sL [98,101,108,111,119]
def z203:Str:=sL [115,116,97,99,107]
def z204:Str:=sL [109,97,100,101]
def z205:Str:=sL [101,120,116,101,110,100]
def z206:Str:=sL [114,97,110,103,101]
def z207:Str:=sL [115,101,116]
def z208:Str:=sL [115,101,116,100,101,102,97,117,108,116]
def z209:Str:=sL [108,105,107,101]
def z210:Str:=sL [112,97,105,114,115]
def z211:Str:=sL [104,111,109,101,115]
def z212:Str:=sL [103,111,101,115,95,111,110]
def z213:Str:=sL [102,105,114,115,116]
def z214:Str:=sL [100,117,101]
def z215:Str:=sL [101,110,117,109,101,114,97,116,101]
def z216:Str:=sL [108,111,119]
def z217:Str:=sL [104,105,103,104]
def z218:Str:=sL [104,111,109,101]
def z219:Str:=sL [105,115,95,115,105,122,101]
def z220:Str:=sL [119,111,114,116,104,115]
def z221:Str:=sL [119,111,114,116,104]
def z222:Str:=sL [102]
def z223:Str:=sL [103]
def z224:Str:=sL [104]
def z225:Str:=sL [107,101,101,112,101,114]
def z226:Str:=sL [115,99,114,105,112,116]
def z227:Str:=sL [97,98,115]
def z228:Str:=sL [99,101,108,108]
def z229:Str:=sL [107,101,101,112,101,114,115]
def z230:Str:=sL [101,108,100,101,114]
def z231:Str:=sL [115,116,114]
def z232:Str:=sL [104,97,100]
def z233:Str:=sL [116,117,114,110]
theorem L7:Str.ofString "_wall"=z13:=rfl
theorem q16:Str.ofString "k"=z16:=rfl
theorem q3:Str.ofString "__name__"=z3:=rfl
theorem q4:Str.ofString "alikeheap.analyses"=z4:=rfl
theorem L6:Str.ofString "LeastDepth"=z14:=rfl
theorem q20:Str.ofString "of_node"=z20:=rfl
theorem q23:Str.ofString "self"=z23:=rfl
theorem q24:Str.ofString "op"=z24:=rfl
theorem q25:Str.ofString "values"=z25:=rfl
theorem Yb:Str.ofString "max"=z176:=rfl
theorem q21:Str.ofString "joined"=z21:=rfl
theorem q27:Str.ofString "one"=z27:=rfl
theorem q28:Str.ofString "other"=z28:=rfl
theorem X9:Str.ofString "min"=z177:=rfl
theorem Wi:Str.ofString "LeastSize"=z15:=rfl
theorem X8:Str.ofString "sum"=z178:=rfl
theorem q36:Str.ofString "Keeper"=z36:=rfl
theorem q38:Str.ofString "__init__"=z38:=rfl
theorem q46:Str.ofString "heap"=z46:=rfl
theorem q47:Str.ofString "analysis"=z47:=rfl
theorem q60:Str.ofString "told"=z60:=rfl
theorem q59:Str.ofString "backs"=z59:=rfl
theorem q39:Str.ofString "renewed"=z39:=rfl
theorem q40:Str.ofString "value"=z40:=rfl
theorem q50:Str.ofString "c"=z50:=rfl
theorem X7:Str.ofString "get"=z179:=rfl
theorem Zg:Str.ofString "find"=z107:=rfl
theorem q41:Str.ofString "begun"=z41:=rfl
theorem q52:Str.ofString "found"=z52:=rfl
theorem X6:Str.ofString "sorted"=z180:=rfl
theorem q53:Str.ofString "kept"=z53:=rfl
theorem q42:Str.ofString "reckoned"=z42:=rfl
theorem q78:Str.ofString "node"=z78:=rfl
theorem Yt:Str.ofString "nodes_of"=z140:=rfl
theorem q77:Str.ofString "kids"=z77:=rfl
theorem X5:Str.ofString "kid"=z181:=rfl
theorem X4:Str.ofString ".0"=z182:=rfl
theorem X3:Str.ofString "fast"=z183:=rfl
theorem q43:Str.ofString "settle"=z43:=rfl
theorem X2:Str.ofString "row"=z184:=rfl
theorem X1:Str.ofString "list"=z185:=rfl
theorem Zd:Str.ofString "classes"=z110:=rfl
theorem Yk:Str.ofString "waiting"=z167:=rfl
theorem Yd:Str.ofString "spot"=z174:=rfl
theorem X0:Str.ofString "len"=z186:=rfl
theorem Xz:Str.ofString "pop"=z187:=rfl
theorem Xy:Str.ofString "user"=z188:=rfl
theorem Yr:Str.ofString "users"=z142:=rfl
theorem Xx:Str.ofString "late"=z189:=rfl
theorem Xw:Str.ofString "append"=z190:=rfl
theorem q44:Str.ofString "clashes"=z44:=rfl
theorem q45:Str.ofString "fold"=z45:=rfl
theorem q35:Str.ofString "alikeheap.errors"=z35:=rfl
theorem q37:Str.ofString "HeapError"=z37:=rfl
theorem Xv:Str.ofString "Exception"=z191:=rfl
theorem q63:Str.ofString "what"=z63:=rfl
theorem Xu:Str.ofString "super"=z192:=rfl
theorem q62:Str.ofString "__class__"=z62:=rfl
theorem q67:Str.ofString "TermFault"=z67:=rfl
theorem q70:Str.ofString "alikeheap.terms"=z70:=rfl
theorem q68:Str.ofString "is_op"=z68:=rfl
theorem Xs:Str.ofString "text"=z193:=rfl
theorem Xr:Str.ofString ""=z194:=rfl
theorem Xq:Str.ofString "sign"=z195:=rfl
theorem Xp:Str.ofString "isspace"=z196:=rfl
theorem Xo:Str.ofString "()[]{},:"=z197:=rfl
theorem q69:Str.ofString "Bank"=z69:=rfl
theorem Zm:Str.ofString "nodes"=z101:=rfl
theorem Zl:Str.ofString "numbers"=z102:=rfl
theorem Zk:Str.ofString "weights"=z103:=rfl
theorem Zn:Str.ofString "depths"=z100:=rfl
theorem q71:Str.ofString "size"=z71:=rfl
theorem q72:Str.ofString "take"=z72:=rfl
theorem Xn:Str.ofString "tuple"=z198:=rfl
theorem q73:Str.ofString "require"=z73:=rfl
theorem Xm:Str.ofString "no term has the number "=z199:=rfl
theorem Xl:Str.ofString "?"=z200:=rfl
theorem Xk:Str.ofString " is no op of a ground term"=z201:=rfl
theorem q74:Str.ofString "put"=z74:=rfl
theorem q87:Str.ofString "t"=z87:=rfl
theorem q75:Str.ofString "put_all"=z75:=rfl
theorem q76:Str.ofString "cut"=z76:=rfl
theorem q90:Str.ofString "many"=z90:=rfl
theorem q92:Str.ofString "n"=z92:=rfl
theorem q79:Str.ofString "term"=z79:=rfl
theorem Xj:Str.ofString "below"=z202:=rfl
theorem Xi:Str.ofString "stack"=z203:=rfl
theorem Xh:Str.ofString "made"=z204:=rfl
theorem q80:Str.ofString "weight"=z80:=rfl
theorem q81:Str.ofString "depth"=z81:=rfl
theorem q82:Str.ofString "seek"=z82:=rfl
theorem q66:Str.ofString "alikeheap.unions"=z66:=rfl
theorem Zi:Str.ofString "Unions"=z105:=rfl
theorem Y7:Str.ofString "above"=z126:=rfl
theorem Y6:Str.ofString "lots"=z127:=rfl
theorem Y5:Str.ofString "merged"=z128:=rfl
theorem Zh:Str.ofString "make"=z106:=rfl
theorem Za:Str.ofString "a"=z116:=rfl
theorem Zf:Str.ofString "merge"=z108:=rfl
theorem Y9:Str.ofString "b"=z118:=rfl
theorem Y8:Str.ofString "gone"=z119:=rfl
theorem Xg:Str.ofString "extend"=z205:=rfl
theorem Ze:Str.ofString "members"=z109:=rfl
theorem Xf:Str.ofString "range"=z206:=rfl
theorem Zc:Str.ofString "log"=z111:=rfl
theorem Zb:Str.ofString "back"=z112:=rfl
theorem Zj:Str.ofString "alikeheap.heap"=z104:=rfl
theorem Y3:Str.ofString "Heap"=z130:=rfl
theorem Yp:Str.ofString "bank"=z162:=rfl
theorem Yl:Str.ofString "unions"=z166:=rfl
theorem Yo:Str.ofString "edges"=z163:=rfl
theorem Yn:Str.ofString "forest"=z164:=rfl
theorem Ym:Str.ofString "known"=z165:=rfl
theorem Yy:Str.ofString "add"=z135:=rfl
theorem Xe:Str.ofString "set"=z207:=rfl
theorem Yx:Str.ofString "look_at"=z136:=rfl
theorem Xd:Str.ofString "setdefault"=z208:=rfl
theorem Yv:Str.ofString "join"=z138:=rfl
theorem Xc:Str.ofString "like"=z209:=rfl
theorem Yw:Str.ofString "are_like"=z137:=rfl
theorem Yq:Str.ofString "reason"=z151:=rfl
theorem Yu:Str.ofString "is_settled"=z139:=rfl
theorem Ys:Str.ofString "many_nodes"=z141:=rfl
theorem Y4:Str.ofString "law_sa0037_01"=z129:=rfl
theorem Y2:Str.ofString "_law_bead"=z131:=rfl
theorem Yj:Str.ofString "chain"=z168:=rfl
theorem Yi:Str.ofString "bead"=z169:=rfl
theorem Y1:Str.ofString "_law_laid"=z132:=rfl
theorem Yh:Str.ofString "rows"=z170:=rfl
theorem Y0:Str.ofString "_law_homes"=z133:=rfl
theorem Xb:Str.ofString "pairs"=z210:=rfl
theorem Xa:Str.ofString "homes"=z211:=rfl
theorem W9:Str.ofString "goes_on"=z212:=rfl
theorem W8:Str.ofString "first"=z213:=rfl
theorem W7:Str.ofString "due"=z214:=rfl
theorem W6:Str.ofString "enumerate"=z215:=rfl
theorem W5:Str.ofString "low"=z216:=rfl
theorem W4:Str.ofString "high"=z217:=rfl
theorem W3:Str.ofString "home"=z218:=rfl
theorem Yz:Str.ofString "_law_least"=z134:=rfl
theorem W0:Str.ofString "is_size"=z219:=rfl
theorem Wz:Str.ofString "worths"=z220:=rfl
theorem Wy:Str.ofString "worth"=z221:=rfl
theorem Yg:Str.ofString "_law_built"=z171:=rfl
theorem Yc:Str.ofString "lap"=z175:=rfl
theorem Wx:Str.ofString "f"=z222:=rfl
theorem Ww:Str.ofString "g"=z223:=rfl
theorem Wv:Str.ofString "h"=z224:=rfl
theorem Ye:Str.ofString "_law_is_told"=z172:=rfl
theorem Wu:Str.ofString "keeper"=z225:=rfl
theorem Ko:Str.ofString "law"=z173:=rfl
theorem Wt:Str.ofString "script"=z226:=rfl
theorem Ws:Str.ofString "abs"=z227:=rfl
theorem Wr:Str.ofString "cell"=z228:=rfl
theorem Wq:Str.ofString "keepers"=z229:=rfl
theorem Wp:Str.ofString "elder"=z230:=rfl
theorem Wo:Str.ofString "str"=z231:=rfl
theorem Wn:Str.ofString "had"=z232:=rfl
theorem Wm:Str.ofString "turn"=z233:=rfl
theorem q1:Str.ofString "/claim/cut.py"=z1:=rfl
set_option inductive.autoPromoteIndices false in
set_option genInjectivity false in
set_option genSizeOfSpec false in
inductive Wk:Program→Type
 | mk (p:Program):Wk p
noncomputable def PW:Wk PySem.Challenge.pw_sa0037_01:=by
 unfold PySem.Challenge.pw_sa0037_01
 dsimp only[L7,q16,q3,q4,L6,q20,q23,q24,q25,Yb,q21,q27,q28,X9,Wi,X8,q36,q38,q46,q47,q60,q59,q39,q40,q50,X7,Zg,q41,q52,X6,q53,q42,q78,Yt,q77,X5,X4,X3,q43,X2,X1,Zd,Yk,Yd,X0,Xz,Xy,Yr,Xx,Xw,q44,q45,q35,q37,Xv,q63,Xu,q62,q67,q70,q68,Xs,Xr,Xq,Xp,Xo,q69,Zm,Zl,Zk,Zn,q71,q72,Xn,q73,Xm,Xl,Xk,q74,q87,q75,q76,q90,q92,q79,Xj,Xi,Xh,q80,q81,q82,q66,Zi,Y7,Y6,Y5,Zh,Za,Zf,Y9,Y8,Xg,Ze,Xf,Zc,Zb,Zj,Y3,Yp,Yl,Yo,Yn,Ym,Yy,Xe,Yx,Xd,Yv,Xc,Yw,Yq,Yu,Ys,Y4,Y2,Yj,Yi,Y1,Yh,Y0,Xb,Xa,W9,W8,W7,W6,W5,W4,W3,Yz,W0,Wz,Wy,Yg,Yc,Wx,Ww,Wv,Ye,Wu,Ko,Wt,Ws,Wr,Wq,Wp,Wo,Wn,Wm,q1]
 exact Wk.mk _
noncomputable def PT:Program:=@Wk.rec (λ _ _=>Program) (λ p=>p) _ PW
theorem pT:PySem.Challenge.pw_sa0037_01=PT:=by kernel_rfl
noncomputable abbrev y0:=SL.s5856160107412720595x4
noncomputable abbrev y1:=SL.s7174869446012820540x8
noncomputable abbrev y2:=SL.s17162191345867700912x4
noncomputable abbrev y3:=SL.s11030030927630378310x26
noncomputable abbrev y4:=SL.s2742458400755230247x6
noncomputable abbrev y5:=SL.s14755015743595814543x17
noncomputable abbrev y6:=SL.s658472552662922059x5
noncomputable abbrev y7:=SL.s10062305145149207511x16
noncomputable abbrev y8:=SL.s4290257624100764138x5
noncomputable abbrev y9:=SL.s4860613602091757760x24
noncomputable abbrev y10:=SL.s7097527257260152453x26
noncomputable abbrev y11:=SL.s11443829558043349243x14
noncomputable abbrev y12:=SL.s10220274742760427390x26
noncomputable abbrev y13:=SL.s5946037652744460706x9
noncomputable abbrev y14:=SL.s6511155373996960695x17
noncomputable abbrev y15:=SL.s12411053484034534018x21
noncomputable abbrev y16:=SL.s4278001404047624695x13
noncomputable abbrev y17:=SL.s5160863994218179198x17
noncomputable def dE (P:Params) (x:Str) (n:Nat) (v:Value):DictEntry:=DictEntry.mk (PyData.keyHash P x) (Value.str x n) v
noncomputable def oT (l:List Value):Obj:=Obj.mk (Value.type SL.s2766695959194262286x5) none (Data.seq ⟨l⟩ 0) ⟨[]⟩
noncomputable def oD (l:List DictEntry) (n:Nat):Obj:=Obj.mk (Value.type SL.s14018661285674007319x4) none (Data.dict ⟨l⟩ n) ⟨[]⟩
noncomputable def oF (t:String) (l:List Value):Obj:=Obj.mk (Value.type t) none (Data.fields ⟨l⟩) ⟨[]⟩
noncomputable def oN (l:List Value):Obj:=Obj.mk Value.none none (Data.fields ⟨l⟩) ⟨[]⟩
noncomputable def oU (c:Value) (x y:Str) (s:Stmt) (n:Nat) (v w:Value):Obj:=Obj.mk c none (Data.func (FuncData.mk x y (H4 s) (.stmts (bE s)) (jM s) n [] Value.none Value.none Value.none v none w Value.none 0)) ⟨[]⟩
noncomputable section
def o0 (P:Params):Obj:=oT []
def o1 (P:Params):Obj:=oN []
def o2 (P:Params):Obj:=oF y0 [.str z0 182,.str z0 183,.str z1 184,.int 1 0,.int 0 0,.int 0 0,.int 0 0,.int 0 0,.ref 11,.bool false,.int 181 0,.ref 12,.none,.none,.none,.none,.int 185 0,.int 1 0,.str z1 186]
noncomputable def o3 (P:Params):Obj:=Obj.mk (.type y6) none Data.plain ⟨[some (.ref 13),some (.ref 3),some (.ref 3),none,some (.str z2 164),none,some (.ref 0)]⟩
def o4 (P:Params):Obj:=oD [dE P z3 165 (.str z4 194),dE P z5 166 .none,dE P z6 167 .none,dE P z7 168 (.builtin y10),dE P z8 169 .none,dE P z9 170 (.ref 6),dE P z10 171 (.ref 4),dE P z11 173 (.str z1 172),dE P z12 174 .none,dE P z13 193 (.ref 21),dE P z14 233 (.ref 45),dE P z15 258 (.ref 66)] 12
def o5 (P:Params):Obj:=oN [.int 1 0,.int 0 0,.ref 20,.int 5 0,.int 0 0,.ref 27,.int 14 0,.int 0 0,.ref 55]
def o6 (P:Params):Obj:=oT []
def o7 (P:Params):Obj:=oN []
def o8 (P:Params):Obj:=oT [.str z16 190]
def o9 (P:Params):Obj:=oT []
def o10 (p:Program) (P:Params):Obj:=oU .none z13 z13 (bI p 0) 0 .none .none
def o11 (P:Params):Obj:=oF y0 [.str z13 187,.str z13 188,.str z1 189,.int 1 0,.int 1 0,.int 0 0,.int 0 0,.int 3 0,.ref 15,.bool true,.int 181 0,.ref 16,.none,.ref 17,.ref 18,.ref 19,.int 191 0,.int 1 0,.str z1 192]
def o12 (p:Program) (P:Params):Obj:=oU (.type y1) z13 z13 (bI p 0) 3 (.str z2 164) (.ref 20)
def o13 (P:Params):Obj:=oT []
def o14 (P:Params):Obj:=oF y3 [.builtin y7,.type y2]
def o15 (P:Params):Obj:=oD [dE P z17 203 (.str z4 194),dE P z18 205 (.str z14 204),dE P z19 207 (.int 5 206),dE P z20 216 (.ref 35),dE P z21 225 (.ref 42),dE P z22 226 (.ref 43)] 6
def o16 (P:Params):Obj:=oT []
def o17 (P:Params):Obj:=oN [.int 7 0,.int 4 0,.ref 34,.int 10 0,.int 4 0,.ref 41]
def o18 (P:Params):Obj:=oF y0 [.str z14 198,.str z14 199,.str z1 200,.int 5 0,.int 0 0,.int 0 0,.int 0 0,.int 0 0,.ref 25,.bool false,.int 181 0,.ref 26,.none,.none,.none,.none,.int 201 0,.int 5 0,.str z1 202]
noncomputable def o19 (P:Params):Obj:=Obj.mk (.type y6) none Data.plain ⟨[some (.ref 27),some (.ref 3),some (.ref 24),none,some (.str z4 194),none,some (.ref 0)]⟩
def o20 (P:Params):Obj:=oT []
def o21 (P:Params):Obj:=oN []
def o22 (P:Params):Obj:=oT [.str z23 211,.str z24 212,.str z25 213]
def o23 (P:Params):Obj:=oT []
def o24 (p:Program) (P:Params):Obj:=oU .none z20 z26 (aG p 2 0) 0 .none .none
def o25 (P:Params):Obj:=oF y0 [.str z20 208,.str z26 209,.str z1 210,.int 7 0,.int 3 0,.int 0 0,.int 0 0,.int 3 0,.ref 29,.bool true,.int 181 0,.ref 30,.none,.ref 31,.ref 32,.ref 33,.int 214 0,.int 7 0,.str z1 215]
def o26 (p:Program) (P:Params):Obj:=oU (.type y1) z20 z26 (aG p 2 0) 3 (.str z4 194) (.ref 34)
def o27 (P:Params):Obj:=oT []
def o28 (P:Params):Obj:=oN []
def o29 (P:Params):Obj:=oT [.str z23 220,.str z27 221,.str z28 222]
def o30 (P:Params):Obj:=oT []
def o31 (p:Program) (P:Params):Obj:=oU .none z21 z29 (aG p 2 1) 0 .none .none
def o32 (P:Params):Obj:=oF y0 [.str z21 217,.str z29 218,.str z1 219,.int 10 0,.int 3 0,.int 0 0,.int 0 0,.int 3 0,.ref 36,.bool true,.int 181 0,.ref 37,.none,.ref 38,.ref 39,.ref 40,.int 223 0,.int 10 0,.str z1 224]
def o33 (p:Program) (P:Params):Obj:=oU (.type y1) z21 z29 (aG p 2 1) 3 (.str z4 194) (.ref 41)
def o34 (P:Params):Obj:=oT []
def o35 (P:Params):Obj:=oD [dE P z17 203 (.str z4 194),dE P z19 207 (.int 5 206),dE P z20 216 (.ref 35),dE P z21 225 (.ref 42),dE P z22 226 (.ref 43),dE P z30 228 (.ref 46),dE P z31 230 (.ref 47),dE P z5 231 .none] 4
noncomputable def o36 (P:Params):Obj:=Obj.mk (.type y2) none (Data.cls (ClassData.mk z14 [.type y4] [.ref 45,.type y4] 44 z14 true [] [.ref 66] false none false)) ⟨[none,none,some (.str z14 196),some (.str z14 204),some (.builtin y11),some (.bool true)]⟩
def o37 (P:Params):Obj:=oF y5 [.str z30 227,.ref 45,.builtin y14,.builtin y15]
def o38 (P:Params):Obj:=oF y5 [.str z31 229,.ref 45,.builtin y12,.none]
def o39 (P:Params):Obj:=oF y8 [.ref 45,.ref 45,.ref 45]
def o40 (P:Params):Obj:=oF y3 [.builtin y9,.ref 45]
def o41 (P:Params):Obj:=oT [.ref 45]
def o42 (P:Params):Obj:=oF y3 [.builtin y7,.type y2]
def o43 (P:Params):Obj:=oD [dE P z17 241 (.str z4 194),dE P z18 243 (.str z15 242),dE P z19 245 (.int 14 244),dE P z20 254 (.ref 63),dE P z22 255 (.ref 64)] 5
def o44 (P:Params):Obj:=oT []
def o45 (P:Params):Obj:=oN [.int 16 0,.int 4 0,.ref 62]
def o46 (P:Params):Obj:=oF y0 [.str z15 236,.str z15 237,.str z1 238,.int 14 0,.int 0 0,.int 0 0,.int 0 0,.int 0 0,.ref 53,.bool false,.int 181 0,.ref 54,.none,.none,.none,.none,.int 239 0,.int 14 0,.str z1 240]
noncomputable def o47 (P:Params):Obj:=Obj.mk (.type y6) none Data.plain ⟨[some (.ref 55),some (.ref 3),some (.ref 52),none,some (.str z4 194),none,some (.ref 0)]⟩
def o48 (P:Params):Obj:=oT []
def o49 (P:Params):Obj:=oN []
def o50 (P:Params):Obj:=oT [.str z23 249,.str z24 250,.str z25 251]
def o51 (P:Params):Obj:=oT []
def o52 (p:Program) (P:Params):Obj:=oU .none z20 z32 (aG p 3 0) 0 .none .none
def o53 (P:Params):Obj:=oF y0 [.str z20 246,.str z32 247,.str z1 248,.int 16 0,.int 3 0,.int 0 0,.int 0 0,.int 3 0,.ref 57,.bool true,.int 181 0,.ref 58,.none,.ref 59,.ref 60,.ref 61,.int 252 0,.int 16 0,.str z1 253]
def o54 (p:Program) (P:Params):Obj:=oU (.type y1) z20 z32 (aG p 3 0) 3 (.str z4 194) (.ref 62)
def o55 (P:Params):Obj:=oT []
def o56 (P:Params):Obj:=oD [dE P z17 241 (.str z4 194),dE P z19 245 (.int 14 244),dE P z20 254 (.ref 63),dE P z22 255 (.ref 64),dE P z5 256 .none] 2
noncomputable def o57 (P:Params):Obj:=Obj.mk (.type y2) none (Data.cls (ClassData.mk z15 [.ref 45] [.ref 66,.ref 45,.type y4] 65 z15 true [] [] false none false)) ⟨[some (.ref 50),none,some (.str z15 234),some (.str z15 242),some (.builtin y11),some (.bool true)]⟩
def o58 (P:Params):Obj:=oF y8 [.ref 66,.ref 66,.ref 66]
def o59 (P:Params):Obj:=oF y3 [.builtin y9,.ref 66]
noncomputable def o60 (P:Params):Obj:=Obj.mk .none none (Data.dict ⟨[dE P z33 380 (.int 160 0),dE P z34 381 (.int 1 0)]⟩ 2) ⟨[]⟩
def o61 (P:Params):Obj:=oD [dE P z3 165 (.str z35 344),dE P z5 166 .none,dE P z6 167 .none,dE P z7 168 (.builtin y10),dE P z8 169 .none,dE P z9 170 (.ref 6),dE P z10 171 (.ref 4),dE P z11 173 (.str z1 172),dE P z12 174 .none,dE P z13 193 (.ref 21),dE P z14 233 (.ref 45),dE P z15 258 (.ref 66),dE P z36 343 (.ref 130),dE P z37 383 (.ref 160)] 14
def o62 (P:Params):Obj:=oN [.int 1 0,.int 0 0,.ref 20,.int 5 0,.int 0 0,.ref 27,.int 14 0,.int 0 0,.ref 55,.int 18 0,.int 0 0,.ref 74,.int 73 0,.int 0 0,.ref 141]
def o63 (P:Params):Obj:=oT []
def o64 (P:Params):Obj:=oF y3 [.builtin y7,.type y2]
def o65 (P:Params):Obj:=oD [dE P z17 266 (.str z4 194),dE P z18 268 (.str z36 267),dE P z19 270 (.int 18 269),dE P z38 279 (.ref 82),dE P z39 286 (.ref 89),dE P z40 294 (.ref 96),dE P z41 304 (.ref 103),dE P z42 310 (.ref 108),dE P z43 316 (.ref 113),dE P z44 323 (.ref 120),dE P z45 330 (.ref 127),dE P z22 336 (.ref 128)] 12
def o66 (P:Params):Obj:=oT []
def o67 (P:Params):Obj:=oN [.int 20 0,.int 4 0,.ref 81,.int 27 0,.int 4 0,.ref 88,.int 31 0,.int 4 0,.ref 95,.int 35 0,.int 4 0,.ref 102,.int 43 0,.int 4 0,.ref 107,.int 50 0,.int 4 0,.ref 112,.int 67 0,.int 4 0,.ref 119,.int 70 0,.int 4 0,.ref 126]
def o68 (P:Params):Obj:=oF y0 [.str z36 261,.str z36 262,.str z1 263,.int 18 0,.int 0 0,.int 0 0,.int 0 0,.int 0 0,.ref 72,.bool false,.int 181 0,.ref 73,.none,.none,.none,.none,.int 264 0,.int 18 0,.str z1 265]
noncomputable def o69 (P:Params):Obj:=Obj.mk (.type y6) none Data.plain ⟨[some (.ref 74),some (.ref 3),some (.ref 71),none,some (.str z4 194),none,some (.ref 0)]⟩
def o70 (P:Params):Obj:=oT []
def o71 (P:Params):Obj:=oN []
def o72 (P:Params):Obj:=oT [.str z23 274,.str z46 275,.str z47 276]
def o73 (P:Params):Obj:=oT []
def o74 (p:Program) (P:Params):Obj:=oU .none z38 z48 (aG p 4 0) 0 .none .none
def o75 (P:Params):Obj:=oF y0 [.str z38 271,.str z48 272,.str z1 273,.int 20 0,.int 3 0,.int 0 0,.int 0 0,.int 3 0,.ref 76,.bool true,.int 181 0,.ref 77,.none,.ref 78,.ref 79,.ref 80,.int 277 0,.int 20 0,.str z1 278]
def o76 (p:Program) (P:Params):Obj:=oU (.type y1) z38 z48 (aG p 4 0) 3 (.str z4 194) (.ref 81)
def o77 (P:Params):Obj:=oT []
def o78 (P:Params):Obj:=oN []
def o79 (P:Params):Obj:=oT [.str z23 283]
def o80 (P:Params):Obj:=oT []
def o81 (p:Program) (P:Params):Obj:=oU .none z39 z49 (aG p 4 1) 0 .none .none
def o82 (P:Params):Obj:=oF y0 [.str z39 280,.str z49 281,.str z1 282,.int 27 0,.int 1 0,.int 0 0,.int 0 0,.int 3 0,.ref 83,.bool true,.int 181 0,.ref 84,.none,.ref 85,.ref 86,.ref 87,.int 284 0,.int 27 0,.str z1 285]
def o83 (p:Program) (P:Params):Obj:=oU (.type y1) z39 z49 (aG p 4 1) 3 (.str z4 194) (.ref 88)
def o84 (P:Params):Obj:=oT []
def o85 (P:Params):Obj:=oN []
def o86 (P:Params):Obj:=oT [.str z23 290,.str z50 291]
def o87 (P:Params):Obj:=oT []
def o88 (p:Program) (P:Params):Obj:=oU .none z40 z51 (aG p 4 2) 0 .none .none
def o89 (P:Params):Obj:=oF y0 [.str z40 287,.str z51 288,.str z1 289,.int 31 0,.int 2 0,.int 0 0,.int 0 0,.int 3 0,.ref 90,.bool true,.int 181 0,.ref 91,.none,.ref 92,.ref 93,.ref 94,.int 292 0,.int 31 0,.str z1 293]
def o90 (p:Program) (P:Params):Obj:=oU (.type y1) z40 z51 (aG p 4 2) 3 (.str z4 194) (.ref 95)
def o91 (P:Params):Obj:=oT []
def o92 (P:Params):Obj:=oN []
def o93 (P:Params):Obj:=oT [.str z23 298,.str z52 299,.str z50 300,.str z53 301]
def o94 (P:Params):Obj:=oT []
def o95 (p:Program) (P:Params):Obj:=oU .none z41 z54 (aG p 4 3) 0 .none .none
def o96 (P:Params):Obj:=oF y0 [.str z41 295,.str z54 296,.str z1 297,.int 35 0,.int 1 0,.int 0 0,.int 0 0,.int 3 0,.ref 97,.bool true,.int 181 0,.ref 98,.none,.ref 99,.ref 100,.ref 101,.int 302 0,.int 35 0,.str z1 303]
def o97 (p:Program) (P:Params):Obj:=oU (.type y1) z41 z54 (aG p 4 3) 3 (.str z4 194) (.ref 102)
def o98 (P:Params):Obj:=oT []
def o99 (P:Params):Obj:=oN []
def o100 (p:Program) (P:Params):Obj:=oU .none z42 z55 (aG p 4 4) 0 .none .none
def o101 (P:Params):Obj:=oF y0 [.str z42 305,.str z55 306,.str z1 307,.int 43 0,.int 2 0,.int 0 0,.int 0 0,.int 3 0,.ref 104,.bool true,.int 181 0,.ref 105,.none,.none,.none,.ref 106,.int 308 0,.int 43 0,.str z1 309]
def o102 (p:Program) (P:Params):Obj:=oU (.type y1) z42 z55 (aG p 4 4) 3 (.str z4 194) (.ref 107)
def o103 (P:Params):Obj:=oT []
def o104 (P:Params):Obj:=oN []
def o105 (p:Program) (P:Params):Obj:=oU .none z43 z56 (aG p 4 5) 0 .none .none
def o106 (P:Params):Obj:=oF y0 [.str z43 311,.str z56 312,.str z1 313,.int 50 0,.int 1 0,.int 0 0,.int 0 0,.int 3 0,.ref 109,.bool true,.int 181 0,.ref 110,.none,.none,.none,.ref 111,.int 314 0,.int 50 0,.str z1 315]
def o107 (p:Program) (P:Params):Obj:=oU (.type y1) z43 z56 (aG p 4 5) 3 (.str z4 194) (.ref 112)
def o108 (P:Params):Obj:=oT []
def o109 (P:Params):Obj:=oN []
def o110 (P:Params):Obj:=oT [.str z23 320]
def o111 (P:Params):Obj:=oT []
def o112 (p:Program) (P:Params):Obj:=oU .none z44 z57 (aG p 4 6) 0 .none .none
def o113 (P:Params):Obj:=oF y0 [.str z44 317,.str z57 318,.str z1 319,.int 67 0,.int 1 0,.int 0 0,.int 0 0,.int 3 0,.ref 114,.bool true,.int 181 0,.ref 115,.none,.ref 116,.ref 117,.ref 118,.int 321 0,.int 67 0,.str z1 322]
def o114 (p:Program) (P:Params):Obj:=oU (.type y1) z44 z57 (aG p 4 6) 3 (.str z4 194) (.ref 119)
def o115 (P:Params):Obj:=oT []
def o116 (P:Params):Obj:=oN []
def o117 (P:Params):Obj:=oT [.str z23 327]
def o118 (P:Params):Obj:=oT []
def o119 (p:Program) (P:Params):Obj:=oU .none z45 z58 (aG p 4 7) 0 .none .none
def o120 (P:Params):Obj:=oF y0 [.str z45 324,.str z58 325,.str z1 326,.int 70 0,.int 1 0,.int 0 0,.int 0 0,.int 3 0,.ref 121,.bool true,.int 181 0,.ref 122,.none,.ref 123,.ref 124,.ref 125,.int 328 0,.int 70 0,.str z1 329]
def o121 (p:Program) (P:Params):Obj:=oU (.type y1) z45 z58 (aG p 4 7) 3 (.str z4 194) (.ref 126)
def o122 (P:Params):Obj:=oT [.str z47 331,.str z59 332,.str z46 333,.str z60 334,.str z25 335]
def o123 (P:Params):Obj:=oD [dE P z17 266 (.str z4 194),dE P z19 270 (.int 18 269),dE P z38 279 (.ref 82),dE P z39 286 (.ref 89),dE P z40 294 (.ref 96),dE P z41 304 (.ref 103),dE P z42 310 (.ref 108),dE P z43 316 (.ref 113),dE P z44 323 (.ref 120),dE P z45 330 (.ref 127),dE P z22 336 (.ref 128),dE P z30 338 (.ref 131),dE P z31 340 (.ref 132),dE P z5 341 .none] 4
noncomputable def o124 (P:Params):Obj:=Obj.mk (.type y2) none (Data.cls (ClassData.mk z36 [.type y4] [.ref 130,.type y4] 129 z36 true [] [] false none false)) ⟨[none,none,some (.str z36 259),some (.str z36 267),some (.builtin y11),some (.bool true)]⟩
def o125 (P:Params):Obj:=oF y5 [.str z30 337,.ref 130,.builtin y14,.builtin y15]
def o126 (P:Params):Obj:=oF y5 [.str z31 339,.ref 130,.builtin y12,.none]
def o127 (P:Params):Obj:=oF y8 [.ref 130,.ref 130,.ref 130]
def o128 (P:Params):Obj:=oF y3 [.builtin y9,.ref 130]
def o129 (P:Params):Obj:=oT [.type y13]
def o130 (P:Params):Obj:=oF y3 [.builtin y7,.type y2]
def o131 (P:Params):Obj:=oD [dE P z17 353 (.str z35 344),dE P z18 355 (.str z37 354),dE P z19 357 (.int 73 356),dE P z38 366 (.ref 150),dE P z60 373 (.ref 157),dE P z22 375 (.ref 158),dE P z61 376 (.ref 138)] 7
noncomputable def o132 (P:Params):Obj:=Obj.mk (.type SL.s15660640913423913556x4) none (Data.cell (some (.ref 160))) ⟨[]⟩
def o133 (P:Params):Obj:=oT []
def o134 (P:Params):Obj:=oN [.int 75 0,.int 4 0,.ref 149,.int 79 0,.int 4 0,.ref 156]
def o135 (P:Params):Obj:=oF y0 [.str z37 348,.str z37 349,.str z1 350,.int 73 0,.int 0 0,.int 0 0,.int 0 0,.int 0 0,.ref 139,.bool false,.int 181 0,.ref 140,.none,.none,.none,.none,.int 351 0,.int 73 0,.str z1 352]
noncomputable def o136 (P:Params):Obj:=Obj.mk (.type y6) none Data.plain ⟨[some (.ref 141),some (.ref 3),some (.ref 137),none,some (.str z35 344),none,some (.ref 0)]⟩
def o137 (P:Params):Obj:=oT [.ref 138]
def o138 (P:Params):Obj:=oT [.str z62 361]
def o139 (P:Params):Obj:=oN []
def o140 (P:Params):Obj:=oT [.str z23 362,.str z63 363]
def o141 (P:Params):Obj:=oT []
def o142 (p:Program) (P:Params):Obj:=oU .none z38 z64 (aG p 6 0) 0 .none .none
def o143 (P:Params):Obj:=oF y0 [.str z38 358,.str z64 359,.str z1 360,.int 75 0,.int 2 0,.int 0 0,.int 0 0,.int 3 0,.ref 144,.bool true,.int 181 0,.ref 145,.none,.ref 146,.ref 147,.ref 148,.int 364 0,.int 75 0,.str z1 365]
noncomputable def o144 (p:Program) (P:Params):Obj:=Obj.mk (.type y1) none (Data.func (FuncData.mk z38 z64 (H4 (aG p 6 0)) (.stmts (bE (aG p 6 0))) (jM (aG p 6 0)) 3 [(z62,138)] .none .none .none (.str z35 344) none (.ref 149) (.ref 143) 0)) ⟨[]⟩
def o145 (P:Params):Obj:=oT []
def o146 (P:Params):Obj:=oN []
def o147 (P:Params):Obj:=oT [.str z23 370]
def o148 (P:Params):Obj:=oT []
def o149 (p:Program) (P:Params):Obj:=oU .none z60 z65 (aG p 6 1) 0 .none .none
def o150 (P:Params):Obj:=oF y0 [.str z60 367,.str z65 368,.str z1 369,.int 79 0,.int 1 0,.int 0 0,.int 0 0,.int 3 0,.ref 151,.bool true,.int 181 0,.ref 152,.none,.ref 153,.ref 154,.ref 155,.int 371 0,.int 79 0,.str z1 372]
def o151 (p:Program) (P:Params):Obj:=oU (.type y1) z60 z65 (aG p 6 1) 3 (.str z35 344) (.ref 156)
def o152 (P:Params):Obj:=oT [.str z63 374]
def o153 (P:Params):Obj:=oD [dE P z17 353 (.str z35 344),dE P z19 357 (.int 73 356),dE P z38 366 (.ref 150),dE P z60 373 (.ref 157),dE P z22 375 (.ref 158),dE P z31 378 (.ref 161),dE P z5 379 .none] 4
noncomputable def o154 (P:Params):Obj:=Obj.mk (.type y2) none (Data.cls (ClassData.mk z37 [.type y13] [.ref 160,.type y13,.type y16,.type y4] 159 z37 true [] [] false none false)) ⟨[some (.ref 135),none,some (.str z37 346),some (.str z37 354),some (.builtin y17),some (.bool true)]⟩
def o155 (P:Params):Obj:=oF y5 [.str z31 377,.ref 160,.builtin y12,.none]
def o156 (P:Params):Obj:=oF y8 [.ref 160,.ref 160,.ref 160]
def o157 (P:Params):Obj:=oF y3 [.builtin y9,.ref 160]
def o158 (P:Params):Obj:=oD [dE P z3 165 (.str z66 539),dE P z5 166 .none,dE P z6 167 .none,dE P z7 168 (.builtin y10),dE P z8 169 .none,dE P z9 170 (.ref 6),dE P z10 171 (.ref 4),dE P z11 173 (.str z1 172),dE P z12 174 .none,dE P z13 193 (.ref 21),dE P z14 233 (.ref 45),dE P z15 258 (.ref 66),dE P z36 343 (.ref 130),dE P z37 383 (.ref 160),dE P z67 399 (.ref 173),dE P z68 407 (.ref 180),dE P z69 538 (.ref 284)] 17
def o159 (P:Params):Obj:=oN [.int 1 0,.int 0 0,.ref 20,.int 5 0,.int 0 0,.ref 27,.int 14 0,.int 0 0,.ref 55,.int 18 0,.int 0 0,.ref 74,.int 73 0,.int 0 0,.ref 141,.int 81 0,.int 0 0,.ref 169,.int 84 0,.int 0 0,.ref 179,.int 86 0,.int 0 0,.ref 186]
noncomputable def o160 (P:Params):Obj:=Obj.mk (.type y2) none (Data.cls (ClassData.mk z37 [.type y13] [.ref 160,.type y13,.type y16,.type y4] 159 z37 true [] [.ref 173] false none false)) ⟨[some (.ref 135),none,some (.str z37 346),some (.str z37 354),some (.builtin y17),some (.bool true)]⟩
def o161 (P:Params):Obj:=oT [.ref 160]
def o162 (P:Params):Obj:=oF y3 [.builtin y7,.type y2]
def o163 (P:Params):Obj:=oD [dE P z17 391 (.str z35 344),dE P z18 393 (.str z67 392),dE P z19 395 (.int 81 394),dE P z22 396 (.ref 171)] 4
def o164 (P:Params):Obj:=oT []
def o165 (P:Params):Obj:=oN []
def o166 (P:Params):Obj:=oF y0 [.str z67 386,.str z67 387,.str z1 388,.int 81 0,.int 0 0,.int 0 0,.int 0 0,.int 0 0,.ref 167,.bool false,.int 181 0,.ref 168,.none,.none,.none,.none,.int 389 0,.int 81 0,.str z1 390]
noncomputable def o167 (P:Params):Obj:=Obj.mk (.type y6) none Data.plain ⟨[some (.ref 169),some (.ref 3),some (.ref 166),none,some (.str z35 344),none,some (.ref 0)]⟩
def o168 (P:Params):Obj:=oT []
def o169 (P:Params):Obj:=oD [dE P z17 391 (.str z35 344),dE P z19 395 (.int 81 394),dE P z22 396 (.ref 171),dE P z5 397 .none] 2
noncomputable def o170 (P:Params):Obj:=Obj.mk (.type y2) none (Data.cls (ClassData.mk z67 [.ref 160] [.ref 173,.ref 160,.type y13,.type y16,.type y4] 172 z67 true [] [] false none false)) ⟨[some (.ref 164),none,some (.str z67 384),some (.str z67 392),some (.builtin y17),some (.bool true)]⟩
def o171 (P:Params):Obj:=oF y8 [.ref 173,.ref 173,.ref 173]
def o172 (P:Params):Obj:=oF y3 [.builtin y9,.ref 173]
def o173 (P:Params):Obj:=oT []
def o174 (P:Params):Obj:=oN []
def o175 (p:Program) (P:Params):Obj:=oU .none z68 z68 (bI p 9) 0 .none .none
def o176 (P:Params):Obj:=oF y0 [.str z68 402,.str z68 403,.str z1 404,.int 84 0,.int 1 0,.int 0 0,.int 0 0,.int 3 0,.ref 176,.bool true,.int 181 0,.ref 177,.none,.none,.none,.ref 178,.int 405 0,.int 84 0,.str z1 406]
def o177 (p:Program) (P:Params):Obj:=oU (.type y1) z68 z68 (bI p 9) 3 (.str z70 400) (.ref 179)
def o178 (P:Params):Obj:=oT []
def o179 (P:Params):Obj:=oF y3 [.builtin y7,.type y2]
def o180 (P:Params):Obj:=oD [dE P z17 415 (.str z70 400),dE P z18 417 (.str z69 416),dE P z19 419 (.int 86 418),dE P z38 426 (.ref 194),dE P z71 433 (.ref 201),dE P z72 439 (.ref 206),dE P z73 447 (.ref 213),dE P z74 455 (.ref 220),dE P z75 463 (.ref 227),dE P z76 471 (.ref 234),dE P z24 479 (.ref 241),dE P z77 487 (.ref 248),dE P z78 495 (.ref 255),dE P z79 501 (.ref 260),dE P z80 509 (.ref 267),dE P z81 517 (.ref 274),dE P z82 526 (.ref 281),dE P z22 531 (.ref 282)] 18
def o181 (P:Params):Obj:=oT []
def o182 (P:Params):Obj:=oN [.int 88 0,.int 4 0,.ref 193,.int 94 0,.int 4 0,.ref 200,.int 97 0,.int 4 0,.ref 205,.int 111 0,.int 4 0,.ref 212,.int 115 0,.int 4 0,.ref 219,.int 118 0,.int 4 0,.ref 226,.int 121 0,.int 4 0,.ref 233,.int 124 0,.int 4 0,.ref 240,.int 127 0,.int 4 0,.ref 247,.int 130 0,.int 4 0,.ref 254,.int 133 0,.int 4 0,.ref 259,.int 145 0,.int 4 0,.ref 266,.int 148 0,.int 4 0,.ref 273,.int 151 0,.int 4 0,.ref 280]
def o183 (P:Params):Obj:=oF y0 [.str z69 410,.str z69 411,.str z1 412,.int 86 0,.int 0 0,.int 0 0,.int 0 0,.int 0 0,.ref 184,.bool false,.int 181 0,.ref 185,.none,.none,.none,.none,.int 413 0,.int 86 0,.str z1 414]
noncomputable def o184 (P:Params):Obj:=Obj.mk (.type y6) none Data.plain ⟨[some (.ref 186),some (.ref 3),some (.ref 183),none,some (.str z70 400),none,some (.ref 0)]⟩
def o185 (P:Params):Obj:=oT []
def o186 (P:Params):Obj:=oN []
def o187 (P:Params):Obj:=oT [.str z23 423]
def o188 (P:Params):Obj:=oT []
def o189 (p:Program) (P:Params):Obj:=oU .none z38 z83 (aG p 10 0) 0 .none .none
def o190 (P:Params):Obj:=oF y0 [.str z38 420,.str z83 421,.str z1 422,.int 88 0,.int 1 0,.int 0 0,.int 0 0,.int 3 0,.ref 188,.bool true,.int 181 0,.ref 189,.none,.ref 190,.ref 191,.ref 192,.int 424 0,.int 88 0,.str z1 425]
def o191 (p:Program) (P:Params):Obj:=oU (.type y1) z38 z83 (aG p 10 0) 3 (.str z70 400) (.ref 193)
def o192 (P:Params):Obj:=oT []
def o193 (P:Params):Obj:=oN []
def o194 (P:Params):Obj:=oT [.str z23 430]
def o195 (P:Params):Obj:=oT []
def o196 (p:Program) (P:Params):Obj:=oU .none z71 z84 (aG p 10 1) 0 .none .none
def o197 (P:Params):Obj:=oF y0 [.str z71 427,.str z84 428,.str z1 429,.int 94 0,.int 1 0,.int 0 0,.int 0 0,.int 3 0,.ref 195,.bool true,.int 181 0,.ref 196,.none,.ref 197,.ref 198,.ref 199,.int 431 0,.int 94 0,.str z1 432]
def o198 (p:Program) (P:Params):Obj:=oU (.type y1) z71 z84 (aG p 10 1) 3 (.str z70 400) (.ref 200)
def o199 (P:Params):Obj:=oT []
def o200 (P:Params):Obj:=oN []
def o201 (p:Program) (P:Params):Obj:=oU .none z72 z85 (aG p 10 2) 0 .none .none
def o202 (P:Params):Obj:=oF y0 [.str z72 434,.str z85 435,.str z1 436,.int 97 0,.int 3 0,.int 0 0,.int 0 0,.int 3 0,.ref 202,.bool true,.int 181 0,.ref 203,.none,.none,.none,.ref 204,.int 437 0,.int 97 0,.str z1 438]
def o203 (p:Program) (P:Params):Obj:=oU (.type y1) z72 z85 (aG p 10 2) 3 (.str z70 400) (.ref 205)
def o204 (P:Params):Obj:=oT []
def o205 (P:Params):Obj:=oN []
def o206 (P:Params):Obj:=oT [.str z23 443,.str z24 444]
def o207 (P:Params):Obj:=oT []
def o208 (p:Program) (P:Params):Obj:=oU .none z73 z86 (aG p 10 3) 0 .none .none
def o209 (P:Params):Obj:=oF y0 [.str z73 440,.str z86 441,.str z1 442,.int 111 0,.int 2 0,.int 0 0,.int 0 0,.int 3 0,.ref 207,.bool true,.int 181 0,.ref 208,.none,.ref 209,.ref 210,.ref 211,.int 445 0,.int 111 0,.str z1 446]
def o210 (p:Program) (P:Params):Obj:=oU (.type y1) z73 z86 (aG p 10 3) 3 (.str z70 400) (.ref 212)
def o211 (P:Params):Obj:=oT []
def o212 (P:Params):Obj:=oN []
def o213 (P:Params):Obj:=oT [.str z23 451,.str z87 452]
def o214 (P:Params):Obj:=oT []
def o215 (p:Program) (P:Params):Obj:=oU .none z74 z88 (aG p 10 4) 0 .none .none
def o216 (P:Params):Obj:=oF y0 [.str z74 448,.str z88 449,.str z1 450,.int 115 0,.int 2 0,.int 0 0,.int 0 0,.int 3 0,.ref 214,.bool true,.int 181 0,.ref 215,.none,.ref 216,.ref 217,.ref 218,.int 453 0,.int 115 0,.str z1 454]
def o217 (p:Program) (P:Params):Obj:=oU (.type y1) z74 z88 (aG p 10 4) 3 (.str z70 400) (.ref 219)
def o218 (P:Params):Obj:=oT []
def o219 (P:Params):Obj:=oN []
def o220 (P:Params):Obj:=oT [.str z23 459,.str z87 460]
def o221 (P:Params):Obj:=oT []
def o222 (p:Program) (P:Params):Obj:=oU .none z75 z89 (aG p 10 5) 0 .none .none
def o223 (P:Params):Obj:=oF y0 [.str z75 456,.str z89 457,.str z1 458,.int 118 0,.int 2 0,.int 0 0,.int 0 0,.int 3 0,.ref 221,.bool true,.int 181 0,.ref 222,.none,.ref 223,.ref 224,.ref 225,.int 461 0,.int 118 0,.str z1 462]
def o224 (p:Program) (P:Params):Obj:=oU (.type y1) z75 z89 (aG p 10 5) 3 (.str z70 400) (.ref 226)
def o225 (P:Params):Obj:=oT []
def o226 (P:Params):Obj:=oN []
def o227 (P:Params):Obj:=oT [.str z23 467,.str z90 468]
def o228 (P:Params):Obj:=oT []
def o229 (p:Program) (P:Params):Obj:=oU .none z76 z91 (aG p 10 6) 0 .none .none
def o230 (P:Params):Obj:=oF y0 [.str z76 464,.str z91 465,.str z1 466,.int 121 0,.int 2 0,.int 0 0,.int 0 0,.int 3 0,.ref 228,.bool true,.int 181 0,.ref 229,.none,.ref 230,.ref 231,.ref 232,.int 469 0,.int 121 0,.str z1 470]
def o231 (p:Program) (P:Params):Obj:=oU (.type y1) z76 z91 (aG p 10 6) 3 (.str z70 400) (.ref 233)
def o232 (P:Params):Obj:=oT []
def o233 (P:Params):Obj:=oN []
def o234 (P:Params):Obj:=oT [.str z23 475,.str z92 476]
def o235 (P:Params):Obj:=oT []
def o236 (p:Program) (P:Params):Obj:=oU .none z24 z93 (aG p 10 7) 0 .none .none
def o237 (P:Params):Obj:=oF y0 [.str z24 472,.str z93 473,.str z1 474,.int 124 0,.int 2 0,.int 0 0,.int 0 0,.int 3 0,.ref 235,.bool true,.int 181 0,.ref 236,.none,.ref 237,.ref 238,.ref 239,.int 477 0,.int 124 0,.str z1 478]
def o238 (p:Program) (P:Params):Obj:=oU (.type y1) z24 z93 (aG p 10 7) 3 (.str z70 400) (.ref 240)
def o239 (P:Params):Obj:=oT []
def o240 (P:Params):Obj:=oN []
def o241 (P:Params):Obj:=oT [.str z23 483,.str z92 484]
def o242 (P:Params):Obj:=oT []
def o243 (p:Program) (P:Params):Obj:=oU .none z77 z94 (aG p 10 8) 0 .none .none
def o244 (P:Params):Obj:=oF y0 [.str z77 480,.str z94 481,.str z1 482,.int 127 0,.int 2 0,.int 0 0,.int 0 0,.int 3 0,.ref 242,.bool true,.int 181 0,.ref 243,.none,.ref 244,.ref 245,.ref 246,.int 485 0,.int 127 0,.str z1 486]
def o245 (p:Program) (P:Params):Obj:=oU (.type y1) z77 z94 (aG p 10 8) 3 (.str z70 400) (.ref 247)
def o246 (P:Params):Obj:=oT []
def o247 (P:Params):Obj:=oN []
def o248 (P:Params):Obj:=oT [.str z23 491,.str z92 492]
def o249 (P:Params):Obj:=oT []
def o250 (p:Program) (P:Params):Obj:=oU .none z78 z95 (aG p 10 9) 0 .none .none
def o251 (P:Params):Obj:=oF y0 [.str z78 488,.str z95 489,.str z1 490,.int 130 0,.int 2 0,.int 0 0,.int 0 0,.int 3 0,.ref 249,.bool true,.int 181 0,.ref 250,.none,.ref 251,.ref 252,.ref 253,.int 493 0,.int 130 0,.str z1 494]
def o252 (p:Program) (P:Params):Obj:=oU (.type y1) z78 z95 (aG p 10 9) 3 (.str z70 400) (.ref 254)
def o253 (P:Params):Obj:=oT []
def o254 (P:Params):Obj:=oN []
def o255 (p:Program) (P:Params):Obj:=oU .none z79 z96 (aG p 10 10) 0 .none .none
def o256 (P:Params):Obj:=oF y0 [.str z79 496,.str z96 497,.str z1 498,.int 133 0,.int 2 0,.int 0 0,.int 0 0,.int 3 0,.ref 256,.bool true,.int 181 0,.ref 257,.none,.none,.none,.ref 258,.int 499 0,.int 133 0,.str z1 500]
def o257 (p:Program) (P:Params):Obj:=oU (.type y1) z79 z96 (aG p 10 10) 3 (.str z70 400) (.ref 259)
def o258 (P:Params):Obj:=oT []
def o259 (P:Params):Obj:=oN []
def o260 (P:Params):Obj:=oT [.str z23 505,.str z92 506]
def o261 (P:Params):Obj:=oT []
def o262 (p:Program) (P:Params):Obj:=oU .none z80 z97 (aG p 10 11) 0 .none .none
def o263 (P:Params):Obj:=oF y0 [.str z80 502,.str z97 503,.str z1 504,.int 145 0,.int 2 0,.int 0 0,.int 0 0,.int 3 0,.ref 261,.bool true,.int 181 0,.ref 262,.none,.ref 263,.ref 264,.ref 265,.int 507 0,.int 145 0,.str z1 508]
def o264 (p:Program) (P:Params):Obj:=oU (.type y1) z80 z97 (aG p 10 11) 3 (.str z70 400) (.ref 266)
def o265 (P:Params):Obj:=oT []
def o266 (P:Params):Obj:=oN []
def o267 (P:Params):Obj:=oT [.str z23 513,.str z92 514]
def o268 (P:Params):Obj:=oT []
def o269 (p:Program) (P:Params):Obj:=oU .none z81 z98 (aG p 10 12) 0 .none .none
def o270 (P:Params):Obj:=oF y0 [.str z81 510,.str z98 511,.str z1 512,.int 148 0,.int 2 0,.int 0 0,.int 0 0,.int 3 0,.ref 268,.bool true,.int 181 0,.ref 269,.none,.ref 270,.ref 271,.ref 272,.int 515 0,.int 148 0,.str z1 516]
def o271 (p:Program) (P:Params):Obj:=oU (.type y1) z81 z98 (aG p 10 12) 3 (.str z70 400) (.ref 273)
def o272 (P:Params):Obj:=oT []
def o273 (P:Params):Obj:=oN []
def o274 (P:Params):Obj:=oT [.str z23 521,.str z24 522,.str z77 523]
def o275 (P:Params):Obj:=oT []
def o276 (p:Program) (P:Params):Obj:=oU .none z82 z99 (aG p 10 13) 0 .none .none
def o277 (P:Params):Obj:=oF y0 [.str z82 518,.str z99 519,.str z1 520,.int 151 0,.int 3 0,.int 0 0,.int 0 0,.int 3 0,.ref 275,.bool true,.int 181 0,.ref 276,.none,.ref 277,.ref 278,.ref 279,.int 524 0,.int 151 0,.str z1 525]
def o278 (p:Program) (P:Params):Obj:=oU (.type y1) z82 z99 (aG p 10 13) 3 (.str z70 400) (.ref 280)
def o279 (P:Params):Obj:=oT [.str z100 527,.str z101 528,.str z102 529,.str z103 530]
def o280 (P:Params):Obj:=oD [dE P z17 415 (.str z70 400),dE P z19 419 (.int 86 418),dE P z38 426 (.ref 194),dE P z71 433 (.ref 201),dE P z72 439 (.ref 206),dE P z73 447 (.ref 213),dE P z74 455 (.ref 220),dE P z75 463 (.ref 227),dE P z76 471 (.ref 234),dE P z24 479 (.ref 241),dE P z77 487 (.ref 248),dE P z78 495 (.ref 255),dE P z79 501 (.ref 260),dE P z80 509 (.ref 267),dE P z81 517 (.ref 274),dE P z82 526 (.ref 281),dE P z22 531 (.ref 282),dE P z30 533 (.ref 285),dE P z31 535 (.ref 286),dE P z5 536 .none] 4
noncomputable def o281 (P:Params):Obj:=Obj.mk (.type y2) none (Data.cls (ClassData.mk z69 [.type y4] [.ref 284,.type y4] 283 z69 true [] [] false none false)) ⟨[none,none,some (.str z69 408),some (.str z69 416),some (.builtin y11),some (.bool true)]⟩
def o282 (P:Params):Obj:=oF y5 [.str z30 532,.ref 284,.builtin y14,.builtin y15]
def o283 (P:Params):Obj:=oF y5 [.str z31 534,.ref 284,.builtin y12,.none]
def o284 (P:Params):Obj:=oF y8 [.ref 284,.ref 284,.ref 284]
def o285 (P:Params):Obj:=oF y3 [.builtin y9,.ref 284]
def o286 (P:Params):Obj:=oD [dE P z3 165 (.str z104 643),dE P z5 166 .none,dE P z6 167 .none,dE P z7 168 (.builtin y10),dE P z8 169 .none,dE P z9 170 (.ref 6),dE P z10 171 (.ref 4),dE P z11 173 (.str z1 172),dE P z12 174 .none,dE P z13 193 (.ref 21),dE P z14 233 (.ref 45),dE P z15 258 (.ref 66),dE P z36 343 (.ref 130),dE P z37 383 (.ref 160),dE P z67 399 (.ref 173),dE P z68 407 (.ref 180),dE P z69 538 (.ref 284),dE P z105 642 (.ref 366)] 18
def o287 (P:Params):Obj:=oN [.int 1 0,.int 0 0,.ref 20,.int 5 0,.int 0 0,.ref 27,.int 14 0,.int 0 0,.ref 55,.int 18 0,.int 0 0,.ref 74,.int 73 0,.int 0 0,.ref 141,.int 81 0,.int 0 0,.ref 169,.int 84 0,.int 0 0,.ref 179,.int 86 0,.int 0 0,.ref 186,.int 154 0,.int 0 0,.ref 294]
def o288 (P:Params):Obj:=oT []
def o289 (P:Params):Obj:=oF y3 [.builtin y7,.type y2]
def o290 (P:Params):Obj:=oD [dE P z17 548 (.str z66 539),dE P z18 550 (.str z105 549),dE P z19 552 (.int 154 551),dE P z38 559 (.ref 302),dE P z106 566 (.ref 309),dE P z71 573 (.ref 316),dE P z107 581 (.ref 323),dE P z108 592 (.ref 330),dE P z109 600 (.ref 337),dE P z110 606 (.ref 342),dE P z111 613 (.ref 349),dE P z112 623 (.ref 356),dE P z76 631 (.ref 363),dE P z22 635 (.ref 364)] 14
def o291 (P:Params):Obj:=oT []
def o292 (P:Params):Obj:=oN [.int 156 0,.int 4 0,.ref 301,.int 161 0,.int 4 0,.ref 308,.int 166 0,.int 4 0,.ref 315,.int 169 0,.int 4 0,.ref 322,.int 174 0,.int 4 0,.ref 329,.int 183 0,.int 4 0,.ref 336,.int 186 0,.int 4 0,.ref 341,.int 189 0,.int 4 0,.ref 348,.int 192 0,.int 4 0,.ref 355,.int 198 0,.int 4 0,.ref 362]
def o293 (P:Params):Obj:=oF y0 [.str z105 543,.str z105 544,.str z1 545,.int 154 0,.int 0 0,.int 0 0,.int 0 0,.int 0 0,.ref 292,.bool false,.int 181 0,.ref 293,.none,.none,.none,.none,.int 546 0,.int 154 0,.str z1 547]
noncomputable def o294 (P:Params):Obj:=Obj.mk (.type y6) none Data.plain ⟨[some (.ref 294),some (.ref 3),some (.ref 291),none,some (.str z66 539),none,some (.ref 0)]⟩
def o295 (P:Params):Obj:=oT []
def o296 (P:Params):Obj:=oN []
def o297 (P:Params):Obj:=oT [.str z23 556]
def o298 (P:Params):Obj:=oT []
def o299 (p:Program) (P:Params):Obj:=oU .none z38 z113 (aG p 12 0) 0 .none .none
def o300 (P:Params):Obj:=oF y0 [.str z38 553,.str z113 554,.str z1 555,.int 156 0,.int 1 0,.int 0 0,.int 0 0,.int 3 0,.ref 296,.bool true,.int 181 0,.ref 297,.none,.ref 298,.ref 299,.ref 300,.int 557 0,.int 156 0,.str z1 558]
def o301 (p:Program) (P:Params):Obj:=oU (.type y1) z38 z113 (aG p 12 0) 3 (.str z66 539) (.ref 301)
def o302 (P:Params):Obj:=oT []
def o303 (P:Params):Obj:=oN []
def o304 (P:Params):Obj:=oT [.str z23 563]
def o305 (P:Params):Obj:=oT []
def o306 (p:Program) (P:Params):Obj:=oU .none z106 z114 (aG p 12 1) 0 .none .none
def o307 (P:Params):Obj:=oF y0 [.str z106 560,.str z114 561,.str z1 562,.int 161 0,.int 1 0,.int 0 0,.int 0 0,.int 3 0,.ref 303,.bool true,.int 181 0,.ref 304,.none,.ref 305,.ref 306,.ref 307,.int 564 0,.int 161 0,.str z1 565]
def o308 (p:Program) (P:Params):Obj:=oU (.type y1) z106 z114 (aG p 12 1) 3 (.str z66 539) (.ref 308)
def o309 (P:Params):Obj:=oT []
def o310 (P:Params):Obj:=oN []
def o311 (P:Params):Obj:=oT [.str z23 570]
def o312 (P:Params):Obj:=oT []
def o313 (p:Program) (P:Params):Obj:=oU .none z71 z115 (aG p 12 2) 0 .none .none
def o314 (P:Params):Obj:=oF y0 [.str z71 567,.str z115 568,.str z1 569,.int 166 0,.int 1 0,.int 0 0,.int 0 0,.int 3 0,.ref 310,.bool true,.int 181 0,.ref 311,.none,.ref 312,.ref 313,.ref 314,.int 571 0,.int 166 0,.str z1 572]
def o315 (p:Program) (P:Params):Obj:=oU (.type y1) z71 z115 (aG p 12 2) 3 (.str z66 539) (.ref 315)
def o316 (P:Params):Obj:=oT []
def o317 (P:Params):Obj:=oN []
def o318 (P:Params):Obj:=oT [.str z23 577,.str z116 578]
def o319 (P:Params):Obj:=oT []
def o320 (p:Program) (P:Params):Obj:=oU .none z107 z117 (aG p 12 3) 0 .none .none
def o321 (P:Params):Obj:=oF y0 [.str z107 574,.str z117 575,.str z1 576,.int 169 0,.int 2 0,.int 0 0,.int 0 0,.int 3 0,.ref 317,.bool true,.int 181 0,.ref 318,.none,.ref 319,.ref 320,.ref 321,.int 579 0,.int 169 0,.str z1 580]
def o322 (p:Program) (P:Params):Obj:=oU (.type y1) z107 z117 (aG p 12 3) 3 (.str z66 539) (.ref 322)
def o323 (P:Params):Obj:=oT []
def o324 (P:Params):Obj:=oN []
def o325 (P:Params):Obj:=oT [.str z23 585,.str z116 586,.str z118 587,.str z53 588,.str z119 589]
def o326 (P:Params):Obj:=oT []
def o327 (p:Program) (P:Params):Obj:=oU .none z108 z120 (aG p 12 4) 0 .none .none
def o328 (P:Params):Obj:=oF y0 [.str z108 582,.str z120 583,.str z1 584,.int 174 0,.int 3 0,.int 0 0,.int 0 0,.int 3 0,.ref 324,.bool true,.int 181 0,.ref 325,.none,.ref 326,.ref 327,.ref 328,.int 590 0,.int 174 0,.str z1 591]
def o329 (p:Program) (P:Params):Obj:=oU (.type y1) z108 z120 (aG p 12 4) 3 (.str z66 539) (.ref 329)
def o330 (P:Params):Obj:=oT []
def o331 (P:Params):Obj:=oN []
def o332 (P:Params):Obj:=oT [.str z23 596,.str z116 597]
def o333 (P:Params):Obj:=oT []
def o334 (p:Program) (P:Params):Obj:=oU .none z109 z121 (aG p 12 5) 0 .none .none
def o335 (P:Params):Obj:=oF y0 [.str z109 593,.str z121 594,.str z1 595,.int 183 0,.int 2 0,.int 0 0,.int 0 0,.int 3 0,.ref 331,.bool true,.int 181 0,.ref 332,.none,.ref 333,.ref 334,.ref 335,.int 598 0,.int 183 0,.str z1 599]
def o336 (p:Program) (P:Params):Obj:=oU (.type y1) z109 z121 (aG p 12 5) 3 (.str z66 539) (.ref 336)
def o337 (P:Params):Obj:=oT []
def o338 (P:Params):Obj:=oN []
def o339 (p:Program) (P:Params):Obj:=oU .none z110 z122 (aG p 12 6) 0 .none .none
def o340 (P:Params):Obj:=oF y0 [.str z110 601,.str z122 602,.str z1 603,.int 186 0,.int 1 0,.int 0 0,.int 0 0,.int 3 0,.ref 338,.bool true,.int 181 0,.ref 339,.none,.none,.none,.ref 340,.int 604 0,.int 186 0,.str z1 605]
def o341 (p:Program) (P:Params):Obj:=oU (.type y1) z110 z122 (aG p 12 6) 3 (.str z66 539) (.ref 341)
def o342 (P:Params):Obj:=oT []
def o343 (P:Params):Obj:=oN []
def o344 (P:Params):Obj:=oT [.str z23 610]
def o345 (P:Params):Obj:=oT []
def o346 (p:Program) (P:Params):Obj:=oU .none z111 z123 (aG p 12 7) 0 .none .none
def o347 (P:Params):Obj:=oF y0 [.str z111 607,.str z123 608,.str z1 609,.int 189 0,.int 1 0,.int 0 0,.int 0 0,.int 3 0,.ref 343,.bool true,.int 181 0,.ref 344,.none,.ref 345,.ref 346,.ref 347,.int 611 0,.int 189 0,.str z1 612]
def o348 (p:Program) (P:Params):Obj:=oU (.type y1) z111 z123 (aG p 12 7) 3 (.str z66 539) (.ref 348)
def o349 (P:Params):Obj:=oT []
def o350 (P:Params):Obj:=oN []
def o351 (P:Params):Obj:=oT [.str z23 617,.str z90 618,.str z53 619,.str z119 620]
def o352 (P:Params):Obj:=oT []
def o353 (p:Program) (P:Params):Obj:=oU .none z112 z124 (aG p 12 8) 0 .none .none
def o354 (P:Params):Obj:=oF y0 [.str z112 614,.str z124 615,.str z1 616,.int 192 0,.int 2 0,.int 0 0,.int 0 0,.int 3 0,.ref 350,.bool true,.int 181 0,.ref 351,.none,.ref 352,.ref 353,.ref 354,.int 621 0,.int 192 0,.str z1 622]
def o355 (p:Program) (P:Params):Obj:=oU (.type y1) z112 z124 (aG p 12 8) 3 (.str z66 539) (.ref 355)
def o356 (P:Params):Obj:=oT []
def o357 (P:Params):Obj:=oN []
def o358 (P:Params):Obj:=oT [.str z23 627,.str z90 628]
def o359 (P:Params):Obj:=oT []
def o360 (p:Program) (P:Params):Obj:=oU .none z76 z125 (aG p 12 9) 0 .none .none
def o361 (P:Params):Obj:=oF y0 [.str z76 624,.str z125 625,.str z1 626,.int 198 0,.int 2 0,.int 0 0,.int 0 0,.int 3 0,.ref 357,.bool true,.int 181 0,.ref 358,.none,.ref 359,.ref 360,.ref 361,.int 629 0,.int 198 0,.str z1 630]
def o362 (p:Program) (P:Params):Obj:=oU (.type y1) z76 z125 (aG p 12 9) 3 (.str z66 539) (.ref 362)
def o363 (P:Params):Obj:=oT [.str z126 632,.str z127 633,.str z128 634]
def o364 (P:Params):Obj:=oD [dE P z17 548 (.str z66 539),dE P z19 552 (.int 154 551),dE P z38 559 (.ref 302),dE P z106 566 (.ref 309),dE P z71 573 (.ref 316),dE P z107 581 (.ref 323),dE P z108 592 (.ref 330),dE P z109 600 (.ref 337),dE P z110 606 (.ref 342),dE P z111 613 (.ref 349),dE P z112 623 (.ref 356),dE P z76 631 (.ref 363),dE P z22 635 (.ref 364),dE P z30 637 (.ref 367),dE P z31 639 (.ref 368),dE P z5 640 .none] 4
noncomputable def o365 (P:Params):Obj:=Obj.mk (.type y2) none (Data.cls (ClassData.mk z105 [.type y4] [.ref 366,.type y4] 365 z105 true [] [] false none false)) ⟨[none,none,some (.str z105 541),some (.str z105 549),some (.builtin y11),some (.bool true)]⟩
def o366 (P:Params):Obj:=oF y5 [.str z30 636,.ref 366,.builtin y14,.builtin y15]
def o367 (P:Params):Obj:=oF y5 [.str z31 638,.ref 366,.builtin y12,.none]
def o368 (P:Params):Obj:=oF y8 [.ref 366,.ref 366,.ref 366]
def o369 (P:Params):Obj:=oF y3 [.builtin y9,.ref 366]
def o370 (P:Params):Obj:=oD [dE P z3 165 (.str z129 812),dE P z5 166 .none,dE P z6 167 .none,dE P z7 168 (.builtin y10),dE P z8 169 .none,dE P z9 170 (.ref 6),dE P z10 171 (.ref 4),dE P z11 173 (.str z1 172),dE P z12 174 .none,dE P z13 193 (.ref 21),dE P z14 233 (.ref 45),dE P z15 258 (.ref 66),dE P z36 343 (.ref 130),dE P z37 383 (.ref 160),dE P z67 399 (.ref 173),dE P z68 407 (.ref 180),dE P z69 538 (.ref 284),dE P z105 642 (.ref 366),dE P z130 811 (.ref 498),dE P z131 822 (.ref 509),dE P z132 832 (.ref 516),dE P z133 838 (.ref 521),dE P z134 844 (.ref 526)] 23
def o371 (P:Params):Obj:=oN [.int 1 0,.int 0 0,.ref 20,.int 5 0,.int 0 0,.ref 27,.int 14 0,.int 0 0,.ref 55,.int 18 0,.int 0 0,.ref 74,.int 73 0,.int 0 0,.ref 141,.int 81 0,.int 0 0,.ref 169,.int 84 0,.int 0 0,.ref 179,.int 86 0,.int 0 0,.ref 186,.int 154 0,.int 0 0,.ref 294,.int 201 0,.int 0 0,.ref 376,.int 284 0,.int 0 0,.ref 508,.int 290 0,.int 0 0,.ref 515,.int 293 0,.int 0 0,.ref 520,.int 305 0,.int 0 0,.ref 525]
def o372 (P:Params):Obj:=oT []
def o373 (P:Params):Obj:=oF y3 [.builtin y7,.type y2]
def o374 (P:Params):Obj:=oD [dE P z17 652 (.str z104 643),dE P z18 654 (.str z130 653),dE P z19 656 (.int 201 655),dE P z38 663 (.ref 384),dE P z71 670 (.ref 391),dE P z78 676 (.ref 396),dE P z135 682 (.ref 401),dE P z74 690 (.ref 408),dE P z136 699 (.ref 415),dE P z107 707 (.ref 422),dE P z137 716 (.ref 429),dE P z108 726 (.ref 436),dE P z138 739 (.ref 443),dE P z43 746 (.ref 450),dE P z139 753 (.ref 457),dE P z110 760 (.ref 464),dE P z109 768 (.ref 471),dE P z140 774 (.ref 476),dE P z141 781 (.ref 483),dE P z82 787 (.ref 488),dE P z142 795 (.ref 495),dE P z22 804 (.ref 496)] 22
def o375 (P:Params):Obj:=oT []
def o376 (P:Params):Obj:=oN [.int 203 0,.int 4 0,.ref 383,.int 213 0,.int 4 0,.ref 390,.int 216 0,.int 4 0,.ref 395,.int 219 0,.int 4 0,.ref 400,.int 230 0,.int 4 0,.ref 407,.int 233 0,.int 4 0,.ref 414,.int 238 0,.int 4 0,.ref 421,.int 241 0,.int 4 0,.ref 428,.int 244 0,.int 4 0,.ref 435,.int 247 0,.int 4 0,.ref 442,.int 258 0,.int 4 0,.ref 449,.int 262 0,.int 4 0,.ref 456,.int 265 0,.int 4 0,.ref 463,.int 268 0,.int 4 0,.ref 470,.int 271 0,.int 4 0,.ref 475,.int 274 0,.int 4 0,.ref 482,.int 277 0,.int 4 0,.ref 487,.int 281 0,.int 4 0,.ref 494]
def o377 (P:Params):Obj:=oF y0 [.str z130 647,.str z130 648,.str z1 649,.int 201 0,.int 0 0,.int 0 0,.int 0 0,.int 0 0,.ref 374,.bool false,.int 181 0,.ref 375,.none,.none,.none,.none,.int 650 0,.int 201 0,.str z1 651]
noncomputable def o378 (P:Params):Obj:=Obj.mk (.type y6) none Data.plain ⟨[some (.ref 376),some (.ref 3),some (.ref 373),none,some (.str z104 643),none,some (.ref 0)]⟩
def o379 (P:Params):Obj:=oT []
def o380 (P:Params):Obj:=oN []
def o381 (P:Params):Obj:=oT [.str z23 660]
def o382 (P:Params):Obj:=oT []
def o383 (p:Program) (P:Params):Obj:=oU .none z38 z143 (aG p 14 0) 0 .none .none
def o384 (P:Params):Obj:=oF y0 [.str z38 657,.str z143 658,.str z1 659,.int 203 0,.int 1 0,.int 0 0,.int 0 0,.int 3 0,.ref 378,.bool true,.int 181 0,.ref 379,.none,.ref 380,.ref 381,.ref 382,.int 661 0,.int 203 0,.str z1 662]
def o385 (p:Program) (P:Params):Obj:=oU (.type y1) z38 z143 (aG p 14 0) 3 (.str z104 643) (.ref 383)
def o386 (P:Params):Obj:=oT []
def o387 (P:Params):Obj:=oN []
def o388 (P:Params):Obj:=oT [.str z23 667]
def o389 (P:Params):Obj:=oT []
def o390 (p:Program) (P:Params):Obj:=oU .none z71 z144 (aG p 14 1) 0 .none .none
def o391 (P:Params):Obj:=oF y0 [.str z71 664,.str z144 665,.str z1 666,.int 213 0,.int 1 0,.int 0 0,.int 0 0,.int 3 0,.ref 385,.bool true,.int 181 0,.ref 386,.none,.ref 387,.ref 388,.ref 389,.int 668 0,.int 213 0,.str z1 669]
def o392 (p:Program) (P:Params):Obj:=oU (.type y1) z71 z144 (aG p 14 1) 3 (.str z104 643) (.ref 390)
def o393 (P:Params):Obj:=oT []
def o394 (P:Params):Obj:=oN []
def o395 (p:Program) (P:Params):Obj:=oU .none z78 z145 (aG p 14 2) 0 .none .none
def o396 (P:Params):Obj:=oF y0 [.str z78 671,.str z145 672,.str z1 673,.int 216 0,.int 2 0,.int 0 0,.int 0 0,.int 3 0,.ref 392,.bool true,.int 181 0,.ref 393,.none,.none,.none,.ref 394,.int 674 0,.int 216 0,.str z1 675]
def o397 (p:Program) (P:Params):Obj:=oU (.type y1) z78 z145 (aG p 14 2) 3 (.str z104 643) (.ref 395)
def o398 (P:Params):Obj:=oT []
def o399 (P:Params):Obj:=oN []
def o400 (p:Program) (P:Params):Obj:=oU .none z135 z146 (aG p 14 3) 0 .none .none
def o401 (P:Params):Obj:=oF y0 [.str z135 677,.str z146 678,.str z1 679,.int 219 0,.int 3 0,.int 0 0,.int 0 0,.int 3 0,.ref 397,.bool true,.int 181 0,.ref 398,.none,.none,.none,.ref 399,.int 680 0,.int 219 0,.str z1 681]
def o402 (p:Program) (P:Params):Obj:=oU (.type y1) z135 z146 (aG p 14 3) 3 (.str z104 643) (.ref 400)
def o403 (P:Params):Obj:=oT []
def o404 (P:Params):Obj:=oN []
def o405 (P:Params):Obj:=oT [.str z23 686,.str z79 687]
def o406 (P:Params):Obj:=oT []
def o407 (p:Program) (P:Params):Obj:=oU .none z74 z147 (aG p 14 4) 0 .none .none
def o408 (P:Params):Obj:=oF y0 [.str z74 683,.str z147 684,.str z1 685,.int 230 0,.int 2 0,.int 0 0,.int 0 0,.int 3 0,.ref 402,.bool true,.int 181 0,.ref 403,.none,.ref 404,.ref 405,.ref 406,.int 688 0,.int 230 0,.str z1 689]
def o409 (p:Program) (P:Params):Obj:=oU (.type y1) z74 z147 (aG p 14 4) 3 (.str z104 643) (.ref 407)
def o410 (P:Params):Obj:=oT []
def o411 (P:Params):Obj:=oN []
def o412 (P:Params):Obj:=oT [.str z23 694,.str z92 695,.str z28 696]
def o413 (P:Params):Obj:=oT []
def o414 (p:Program) (P:Params):Obj:=oU .none z136 z148 (aG p 14 5) 0 .none .none
def o415 (P:Params):Obj:=oF y0 [.str z136 691,.str z148 692,.str z1 693,.int 233 0,.int 2 0,.int 0 0,.int 0 0,.int 3 0,.ref 409,.bool true,.int 181 0,.ref 410,.none,.ref 411,.ref 412,.ref 413,.int 697 0,.int 233 0,.str z1 698]
def o416 (p:Program) (P:Params):Obj:=oU (.type y1) z136 z148 (aG p 14 5) 3 (.str z104 643) (.ref 414)
def o417 (P:Params):Obj:=oT []
def o418 (P:Params):Obj:=oN []
def o419 (P:Params):Obj:=oT [.str z23 703,.str z92 704]
def o420 (P:Params):Obj:=oT []
def o421 (p:Program) (P:Params):Obj:=oU .none z107 z149 (aG p 14 6) 0 .none .none
def o422 (P:Params):Obj:=oF y0 [.str z107 700,.str z149 701,.str z1 702,.int 238 0,.int 2 0,.int 0 0,.int 0 0,.int 3 0,.ref 416,.bool true,.int 181 0,.ref 417,.none,.ref 418,.ref 419,.ref 420,.int 705 0,.int 238 0,.str z1 706]
def o423 (p:Program) (P:Params):Obj:=oU (.type y1) z107 z149 (aG p 14 6) 3 (.str z104 643) (.ref 421)
def o424 (P:Params):Obj:=oT []
def o425 (P:Params):Obj:=oN []
def o426 (P:Params):Obj:=oT [.str z23 711,.str z116 712,.str z118 713]
def o427 (P:Params):Obj:=oT []
def o428 (p:Program) (P:Params):Obj:=oU .none z137 z150 (aG p 14 7) 0 .none .none
def o429 (P:Params):Obj:=oF y0 [.str z137 708,.str z150 709,.str z1 710,.int 241 0,.int 3 0,.int 0 0,.int 0 0,.int 3 0,.ref 423,.bool true,.int 181 0,.ref 424,.none,.ref 425,.ref 426,.ref 427,.int 714 0,.int 241 0,.str z1 715]
def o430 (p:Program) (P:Params):Obj:=oU (.type y1) z137 z150 (aG p 14 7) 3 (.str z104 643) (.ref 428)
def o431 (P:Params):Obj:=oT []
def o432 (P:Params):Obj:=oN []
def o433 (P:Params):Obj:=oT [.str z23 720,.str z116 721,.str z118 722,.str z151 723]
def o434 (P:Params):Obj:=oT []
def o435 (p:Program) (P:Params):Obj:=oU .none z108 z152 (aG p 14 8) 0 .none .none
def o436 (P:Params):Obj:=oF y0 [.str z108 717,.str z152 718,.str z1 719,.int 244 0,.int 4 0,.int 0 0,.int 0 0,.int 3 0,.ref 430,.bool true,.int 181 0,.ref 431,.none,.ref 432,.ref 433,.ref 434,.int 724 0,.int 244 0,.str z1 725]
def o437 (p:Program) (P:Params):Obj:=oU (.type y1) z108 z152 (aG p 14 8) 3 (.str z104 643) (.ref 435)
def o438 (P:Params):Obj:=oT []
def o439 (P:Params):Obj:=oN []
def o440 (P:Params):Obj:=oT [.str z23 730,.str z116 731,.str z118 732,.str z151 733,.str z128 734,.str z53 735,.str z119 736]
def o441 (P:Params):Obj:=oT []
def o442 (p:Program) (P:Params):Obj:=oU .none z138 z153 (aG p 14 9) 0 .none .none
def o443 (P:Params):Obj:=oF y0 [.str z138 727,.str z153 728,.str z1 729,.int 247 0,.int 4 0,.int 0 0,.int 0 0,.int 3 0,.ref 437,.bool true,.int 181 0,.ref 438,.none,.ref 439,.ref 440,.ref 441,.int 737 0,.int 247 0,.str z1 738]
def o444 (p:Program) (P:Params):Obj:=oU (.type y1) z138 z153 (aG p 14 9) 3 (.str z104 643) (.ref 442)
def o445 (P:Params):Obj:=oT []
def o446 (P:Params):Obj:=oN []
def o447 (P:Params):Obj:=oT [.str z23 743]
def o448 (P:Params):Obj:=oT []
def o449 (p:Program) (P:Params):Obj:=oU .none z43 z154 (aG p 14 10) 0 .none .none
def o450 (P:Params):Obj:=oF y0 [.str z43 740,.str z154 741,.str z1 742,.int 258 0,.int 1 0,.int 0 0,.int 0 0,.int 3 0,.ref 444,.bool true,.int 181 0,.ref 445,.none,.ref 446,.ref 447,.ref 448,.int 744 0,.int 258 0,.str z1 745]
def o451 (p:Program) (P:Params):Obj:=oU (.type y1) z43 z154 (aG p 14 10) 3 (.str z104 643) (.ref 449)
def o452 (P:Params):Obj:=oT []
def o453 (P:Params):Obj:=oN []
def o454 (P:Params):Obj:=oT [.str z23 750]
def o455 (P:Params):Obj:=oT []
def o456 (p:Program) (P:Params):Obj:=oU .none z139 z155 (aG p 14 11) 0 .none .none
def o457 (P:Params):Obj:=oF y0 [.str z139 747,.str z155 748,.str z1 749,.int 262 0,.int 1 0,.int 0 0,.int 0 0,.int 3 0,.ref 451,.bool true,.int 181 0,.ref 452,.none,.ref 453,.ref 454,.ref 455,.int 751 0,.int 262 0,.str z1 752]
def o458 (p:Program) (P:Params):Obj:=oU (.type y1) z139 z155 (aG p 14 11) 3 (.str z104 643) (.ref 456)
def o459 (P:Params):Obj:=oT []
def o460 (P:Params):Obj:=oN []
def o461 (P:Params):Obj:=oT [.str z23 757]
def o462 (P:Params):Obj:=oT []
def o463 (p:Program) (P:Params):Obj:=oU .none z110 z156 (aG p 14 12) 0 .none .none
def o464 (P:Params):Obj:=oF y0 [.str z110 754,.str z156 755,.str z1 756,.int 265 0,.int 1 0,.int 0 0,.int 0 0,.int 3 0,.ref 458,.bool true,.int 181 0,.ref 459,.none,.ref 460,.ref 461,.ref 462,.int 758 0,.int 265 0,.str z1 759]
def o465 (p:Program) (P:Params):Obj:=oU (.type y1) z110 z156 (aG p 14 12) 3 (.str z104 643) (.ref 463)
def o466 (P:Params):Obj:=oT []
def o467 (P:Params):Obj:=oN []
def o468 (P:Params):Obj:=oT [.str z23 764,.str z50 765]
def o469 (P:Params):Obj:=oT []
def o470 (p:Program) (P:Params):Obj:=oU .none z109 z157 (aG p 14 13) 0 .none .none
def o471 (P:Params):Obj:=oF y0 [.str z109 761,.str z157 762,.str z1 763,.int 268 0,.int 2 0,.int 0 0,.int 0 0,.int 3 0,.ref 465,.bool true,.int 181 0,.ref 466,.none,.ref 467,.ref 468,.ref 469,.int 766 0,.int 268 0,.str z1 767]
def o472 (p:Program) (P:Params):Obj:=oU (.type y1) z109 z157 (aG p 14 13) 3 (.str z104 643) (.ref 470)
def o473 (P:Params):Obj:=oT []
def o474 (P:Params):Obj:=oN []
def o475 (p:Program) (P:Params):Obj:=oU .none z140 z158 (aG p 14 14) 0 .none .none
def o476 (P:Params):Obj:=oF y0 [.str z140 769,.str z158 770,.str z1 771,.int 271 0,.int 2 0,.int 0 0,.int 0 0,.int 3 0,.ref 472,.bool true,.int 181 0,.ref 473,.none,.none,.none,.ref 474,.int 772 0,.int 271 0,.str z1 773]
def o477 (p:Program) (P:Params):Obj:=oU (.type y1) z140 z158 (aG p 14 14) 3 (.str z104 643) (.ref 475)
def o478 (P:Params):Obj:=oT []
def o479 (P:Params):Obj:=oN []
def o480 (P:Params):Obj:=oT [.str z23 778]
def o481 (P:Params):Obj:=oT []
def o482 (p:Program) (P:Params):Obj:=oU .none z141 z159 (aG p 14 15) 0 .none .none
def o483 (P:Params):Obj:=oF y0 [.str z141 775,.str z159 776,.str z1 777,.int 274 0,.int 1 0,.int 0 0,.int 0 0,.int 3 0,.ref 477,.bool true,.int 181 0,.ref 478,.none,.ref 479,.ref 480,.ref 481,.int 779 0,.int 274 0,.str z1 780]
def o484 (p:Program) (P:Params):Obj:=oU (.type y1) z141 z159 (aG p 14 15) 3 (.str z104 643) (.ref 482)
def o485 (P:Params):Obj:=oT []
def o486 (P:Params):Obj:=oN []
def o487 (p:Program) (P:Params):Obj:=oU .none z82 z160 (aG p 14 16) 0 .none .none
def o488 (P:Params):Obj:=oF y0 [.str z82 782,.str z160 783,.str z1 784,.int 277 0,.int 3 0,.int 0 0,.int 0 0,.int 3 0,.ref 484,.bool true,.int 181 0,.ref 485,.none,.none,.none,.ref 486,.int 785 0,.int 277 0,.str z1 786]
def o489 (p:Program) (P:Params):Obj:=oU (.type y1) z82 z160 (aG p 14 16) 3 (.str z104 643) (.ref 487)
def o490 (P:Params):Obj:=oT []
def o491 (P:Params):Obj:=oN []
def o492 (P:Params):Obj:=oT [.str z23 791,.str z50 792]
def o493 (P:Params):Obj:=oT []
def o494 (p:Program) (P:Params):Obj:=oU .none z142 z161 (aG p 14 17) 0 .none .none
def o495 (P:Params):Obj:=oF y0 [.str z142 788,.str z161 789,.str z1 790,.int 281 0,.int 2 0,.int 0 0,.int 0 0,.int 3 0,.ref 489,.bool true,.int 181 0,.ref 490,.none,.ref 491,.ref 492,.ref 493,.int 793 0,.int 281 0,.str z1 794]
def o496 (p:Program) (P:Params):Obj:=oU (.type y1) z142 z161 (aG p 14 17) 3 (.str z104 643) (.ref 494)
def o497 (P:Params):Obj:=oT [.str z126 796,.str z59 797,.str z162 798,.str z163 799,.str z164 800,.str z165 801,.str z166 802,.str z167 803]
def o498 (P:Params):Obj:=oD [dE P z17 652 (.str z104 643),dE P z19 656 (.int 201 655),dE P z38 663 (.ref 384),dE P z71 670 (.ref 391),dE P z78 676 (.ref 396),dE P z135 682 (.ref 401),dE P z74 690 (.ref 408),dE P z136 699 (.ref 415),dE P z107 707 (.ref 422),dE P z137 716 (.ref 429),dE P z108 726 (.ref 436),dE P z138 739 (.ref 443),dE P z43 746 (.ref 450),dE P z139 753 (.ref 457),dE P z110 760 (.ref 464),dE P z109 768 (.ref 471),dE P z140 774 (.ref 476),dE P z141 781 (.ref 483),dE P z82 787 (.ref 488),dE P z142 795 (.ref 495),dE P z22 804 (.ref 496),dE P z30 806 (.ref 499),dE P z31 808 (.ref 500),dE P z5 809 .none] 4
noncomputable def o499 (P:Params):Obj:=Obj.mk (.type y2) none (Data.cls (ClassData.mk z130 [.type y4] [.ref 498,.type y4] 497 z130 true [] [] false none false)) ⟨[none,none,some (.str z130 645),some (.str z130 653),some (.builtin y11),some (.bool true)]⟩
def o500 (P:Params):Obj:=oF y5 [.str z30 805,.ref 498,.builtin y14,.builtin y15]
def o501 (P:Params):Obj:=oF y5 [.str z31 807,.ref 498,.builtin y12,.none]
def o502 (P:Params):Obj:=oF y8 [.ref 498,.ref 498,.ref 498]
def o503 (P:Params):Obj:=oF y3 [.builtin y9,.ref 498]
def o504 (P:Params):Obj:=oT []
def o505 (P:Params):Obj:=oN []
def o506 (P:Params):Obj:=oT [.str z168 817,.str z90 818,.str z169 819]
def o507 (P:Params):Obj:=oT []
def o508 (p:Program) (P:Params):Obj:=oU .none z131 z131 (bI p 16) 0 .none .none
def o509 (P:Params):Obj:=oF y0 [.str z131 814,.str z131 815,.str z1 816,.int 284 0,.int 2 0,.int 0 0,.int 0 0,.int 3 0,.ref 503,.bool true,.int 181 0,.ref 504,.none,.ref 505,.ref 506,.ref 507,.int 820 0,.int 284 0,.str z1 821]
def o510 (p:Program) (P:Params):Obj:=oU (.type y1) z131 z131 (bI p 16) 3 (.str z129 812) (.ref 508)
def o511 (P:Params):Obj:=oT []
def o512 (P:Params):Obj:=oN []
def o513 (P:Params):Obj:=oT [.str z46 826,.str z170 827,.str z24 828,.str z77 829]
def o514 (P:Params):Obj:=oT []
def o515 (p:Program) (P:Params):Obj:=oU .none z132 z132 (bI p 17) 0 .none .none
def o516 (P:Params):Obj:=oF y0 [.str z132 823,.str z132 824,.str z1 825,.int 290 0,.int 4 0,.int 0 0,.int 0 0,.int 3 0,.ref 510,.bool true,.int 181 0,.ref 511,.none,.ref 512,.ref 513,.ref 514,.int 830 0,.int 290 0,.str z1 831]
def o517 (p:Program) (P:Params):Obj:=oU (.type y1) z132 z132 (bI p 17) 3 (.str z129 812) (.ref 515)
def o518 (P:Params):Obj:=oT []
def o519 (P:Params):Obj:=oN []
def o520 (p:Program) (P:Params):Obj:=oU .none z133 z133 (bI p 18) 0 .none .none
def o521 (P:Params):Obj:=oF y0 [.str z133 833,.str z133 834,.str z1 835,.int 293 0,.int 2 0,.int 0 0,.int 0 0,.int 3 0,.ref 517,.bool true,.int 181 0,.ref 518,.none,.none,.none,.ref 519,.int 836 0,.int 293 0,.str z1 837]
def o522 (p:Program) (P:Params):Obj:=oU (.type y1) z133 z133 (bI p 18) 3 (.str z129 812) (.ref 520)
def o523 (P:Params):Obj:=oT []
def o524 (P:Params):Obj:=oN []
def o525 (p:Program) (P:Params):Obj:=oU .none z134 z134 (bI p 19) 0 .none .none
def o526 (P:Params):Obj:=oF y0 [.str z134 839,.str z134 840,.str z1 841,.int 305 0,.int 3 0,.int 0 0,.int 0 0,.int 3 0,.ref 522,.bool true,.int 181 0,.ref 523,.none,.none,.none,.ref 524,.int 842 0,.int 305 0,.str z1 843]
def o527 (p:Program) (P:Params):Obj:=oU (.type y1) z134 z134 (bI p 19) 3 (.str z129 812) (.ref 525)
def o528 (P:Params):Obj:=oD [dE P z3 165 (.str z129 812),dE P z5 166 .none,dE P z6 167 .none,dE P z7 168 (.builtin y10),dE P z8 169 .none,dE P z9 170 (.ref 6),dE P z10 171 (.ref 4),dE P z11 173 (.str z1 172),dE P z12 174 .none,dE P z13 193 (.ref 21),dE P z14 233 (.ref 45),dE P z15 258 (.ref 66),dE P z36 343 (.ref 130),dE P z37 383 (.ref 160),dE P z67 399 (.ref 173),dE P z68 407 (.ref 180),dE P z69 538 (.ref 284),dE P z105 642 (.ref 366),dE P z130 811 (.ref 498),dE P z131 822 (.ref 509),dE P z132 832 (.ref 516),dE P z133 838 (.ref 521),dE P z134 844 (.ref 526),dE P z171 857 (.ref 533),dE P z172 863 (.ref 538),dE P z173 869 (.ref 543)] 26
def o529 (P:Params):Obj:=oN [.int 1 0,.int 0 0,.ref 20,.int 5 0,.int 0 0,.ref 27,.int 14 0,.int 0 0,.ref 55,.int 18 0,.int 0 0,.ref 74,.int 73 0,.int 0 0,.ref 141,.int 81 0,.int 0 0,.ref 169,.int 84 0,.int 0 0,.ref 179,.int 86 0,.int 0 0,.ref 186,.int 154 0,.int 0 0,.ref 294,.int 201 0,.int 0 0,.ref 376,.int 284 0,.int 0 0,.ref 508,.int 290 0,.int 0 0,.ref 515,.int 293 0,.int 0 0,.ref 520,.int 305 0,.int 0 0,.ref 525,.int 317 0,.int 0 0,.ref 532,.int 333 0,.int 0 0,.ref 537,.int 335 0,.int 0 0,.ref 542]
def o530 (P:Params):Obj:=oT []
def o531 (P:Params):Obj:=oN []
def o532 (P:Params):Obj:=oT [.str z168 848,.str z46 849,.str z170 850,.str z174 851,.str z175 852,.str z27 853,.str z28 854]
def o533 (P:Params):Obj:=oT []
def o534 (p:Program) (P:Params):Obj:=oU .none z171 z171 (bI p 20) 0 .none .none
def o535 (P:Params):Obj:=oF y0 [.str z171 845,.str z171 846,.str z1 847,.int 317 0,.int 1 0,.int 0 0,.int 0 0,.int 3 0,.ref 527,.bool true,.int 181 0,.ref 528,.none,.ref 529,.ref 530,.ref 531,.int 855 0,.int 317 0,.str z1 856]
def o536 (p:Program) (P:Params):Obj:=oU (.type y1) z171 z171 (bI p 20) 3 (.str z129 812) (.ref 532)
def o537 (P:Params):Obj:=oT []
def o538 (P:Params):Obj:=oN []
def o539 (p:Program) (P:Params):Obj:=oU .none z172 z172 (bI p 21) 0 .none .none
def o540 (P:Params):Obj:=oF y0 [.str z172 858,.str z172 859,.str z1 860,.int 333 0,.int 4 0,.int 0 0,.int 0 0,.int 3 0,.ref 534,.bool true,.int 181 0,.ref 535,.none,.none,.none,.ref 536,.int 861 0,.int 333 0,.str z1 862]
def o541 (p:Program) (P:Params):Obj:=oU (.type y1) z172 z172 (bI p 21) 3 (.str z129 812) (.ref 537)
def o542 (P:Params):Obj:=oT []
def o543 (P:Params):Obj:=oN []
def o544 (p:Program) (P:Params):Obj:=oU .none z173 z173 (bI p 22) 0 .none .none
def o545 (P:Params):Obj:=oF y0 [.str z173 864,.str z173 865,.str z1 866,.int 335 0,.int 1 0,.int 0 0,.int 0 0,.int 3 0,.ref 539,.bool true,.int 181 0,.ref 540,.none,.none,.none,.ref 541,.int 867 0,.int 335 0,.str z1 868]
def o546 (p:Program) (P:Params):Obj:=oU (.type y1) z173 z173 (bI p 22) 3 (.str z129 812) (.ref 542)
end
noncomputable def J3 (P:Params):Heap:=⟨⟨[boot_o_0 P,boot_o_1 P,boot_o_2 P,boot_o_3 P,boot_o_4 P,boot_o_5 P,boot_o_6 P,boot_o_7 P,boot_o_8 P,boot_o_9 P,boot_o_10 P,o0 P,o1 P,o2 P,o3 P]⟩,fW⟩
noncomputable def Im (P:Params):BT:=(nd (boot_o_0 P) (nd (boot_o_1 P) (nd (boot_o_3 P) (lf (boot_o_7 P)) (lf (o0 P))) (nd (boot_o_5 P) (lf (boot_o_9 P)) (lf (o2 P)))) (nd (boot_o_2 P) (nd (boot_o_4 P) (lf (boot_o_8 P)) (lf (o1 P))) (nd (boot_o_6 P) (lf (boot_o_10 P)) (lf (o3 P)))))
def Iu (P:Params):BT:=(nd (boot_o_0 P) (nd (boot_o_1 P) (nd (o4 P) (nd (boot_o_7 P) (nd (o6 P) (nd (o22 P) (lf (o54 PT P)) .nil) (lf (o38 P))) (nd (o14 P) (lf (o30 P)) (lf (o46 P)))) (nd (o0 P) (nd (o10 PT P) (nd (o26 PT P) (lf (o58 P)) .nil) (lf (o42 P))) (nd (o18 P) (lf (o34 P)) (lf (o50 P))))) (nd (boot_o_5 P) (nd (boot_o_9 P) (nd (o8 P) (nd (o24 PT P) (lf (o56 P)) .nil) (lf (o40 P))) (nd (o16 P) (lf (o32 P)) (lf (o48 P)))) (nd (o2 P) (nd (o12 PT P) (lf (o28 P)) (lf (o44 P))) (nd (o20 P) (lf (o36 P)) (lf (o52 PT P)))))) (nd (boot_o_2 P) (nd (boot_o_4 P) (nd (boot_o_8 P) (nd (o7 P) (nd (o23 P) (lf (o55 P)) .nil) (lf (o39 P))) (nd (o15 P) (lf (o31 PT P)) (lf (o47 P)))) (nd (o5 P) (nd (o11 P) (nd (o27 P) (lf (o59 P)) .nil) (lf (o43 P))) (nd (o19 P) (lf (o35 P)) (lf (o51 P))))) (nd (boot_o_6 P) (nd (boot_o_10 P) (nd (o9 P) (nd (o25 P) (lf (o57 P)) .nil) (lf (o41 P))) (nd (o17 P) (lf (o33 PT P)) (lf (o49 P)))) (nd (o3 P) (nd (o13 P) (lf (o29 P)) (lf (o45 P))) (nd (o21 P) (lf (o37 P)) (lf (o53 P)))))))
def It (P:Params):BT:=(nd (boot_o_0 P) (nd (boot_o_1 P) (nd (o61 P) (nd (boot_o_7 P) (nd (o6 P) (nd (o22 P) (nd (o54 PT P) (lf (o121 PT P)) .nil) (nd (o89 P) (lf (o153 P)) .nil)) (nd (o38 P) (nd (o73 P) (lf (o137 P)) .nil) (lf (o105 PT P)))) (nd (o14 P) (nd (o30 P) (nd (o65 P) (lf (o129 P)) .nil) (lf (o97 PT P))) (nd (o46 P) (nd (o81 PT P) (lf (o145 P)) .nil) (lf (o113 P))))) (nd (o0 P) (nd (o10 PT P) (nd (o26 PT P) (nd (o58 P) (lf (o125 P)) .nil) (nd (o93 P) (lf (o157 P)) .nil)) (nd (o42 P) (nd (o77 P) (lf (o141 P)) .nil) (lf (o109 P)))) (nd (o18 P) (nd (o34 P) (nd (o69 P) (lf (o133 P)) .nil) (lf (o101 P))) (nd (o50 P) (nd (o85 P) (lf (o149 PT P)) .nil) (lf (o117 P)))))) (nd (boot_o_5 P) (nd (boot_o_9 P) (nd (o8 P) (nd (o24 PT P) (nd (o56 P) (lf (o123 P)) .nil) (nd (o91 P) (lf (o155 P)) .nil)) (nd (o40 P) (nd (o75 P) (lf (o139 P)) .nil) (lf (o107 PT P)))) (nd (o16 P) (nd (o32 P) (nd (o67 P) (lf (o131 P)) .nil) (lf (o99 P))) (nd (o48 P) (nd (o83 PT P) (lf (o147 P)) .nil) (lf (o115 P))))) (nd (o2 P) (nd (o12 PT P) (nd (o28 P) (nd (o63 P) (lf (o127 P)) .nil) (lf (o95 PT P))) (nd (o44 P) (nd (o79 P) (lf (o143 P)) .nil) (lf (o111 P)))) (nd (o20 P) (nd (o36 P) (nd (o71 P) (lf (o135 P)) .nil) (lf (o103 P))) (nd (o52 PT P) (nd (o87 P) (lf (o151 PT P)) .nil) (lf (o119 PT P))))))) (nd (o60 P) (nd (boot_o_4 P) (nd (boot_o_8 P) (nd (o7 P) (nd (o23 P) (nd (o55 P) (lf (o122 P)) .nil) (nd (o90 PT P) (lf (o154 P)) .nil)) (nd (o39 P) (nd (o74 PT P) (lf (o138 P)) .nil) (lf (o106 P)))) (nd (o15 P) (nd (o31 PT P) (nd (o66 P) (lf (o130 P)) .nil) (lf (o98 P))) (nd (o47 P) (nd (o82 P) (lf (o146 P)) .nil) (lf (o114 PT P))))) (nd (o62 P) (nd (o11 P) (nd (o27 P) (nd (o59 P) (lf (o126 P)) .nil) (lf (o94 P))) (nd (o43 P) (nd (o78 P) (lf (o142 PT P)) .nil) (lf (o110 P)))) (nd (o19 P) (nd (o35 P) (nd (o70 P) (lf (o134 P)) .nil) (lf (o102 PT P))) (nd (o51 P) (nd (o86 P) (lf (o150 P)) .nil) (lf (o118 P)))))) (nd (boot_o_6 P) (nd (boot_o_10 P) (nd (o9 P) (nd (o25 P) (nd (o57 P) (lf (o124 P)) .nil) (nd (o92 P) (lf (o156 P)) .nil)) (nd (o41 P) (nd (o76 PT P) (lf (o140 P)) .nil) (lf (o108 P)))) (nd (o17 P) (nd (o33 PT P) (nd (o68 P) (lf (o132 P)) .nil) (lf (o100 PT P))) (nd (o49 P) (nd (o84 P) (lf (o148 P)) .nil) (lf (o116 P))))) (nd (o3 P) (nd (o13 P) (nd (o29 P) (nd (o64 P) (lf (o128 P)) .nil) (lf (o96 P))) (nd (o45 P) (nd (o80 P) (lf (o144 PT P)) .nil) (lf (o112 PT P)))) (nd (o21 P) (nd (o37 P) (nd (o72 P) (lf (o136 P)) .nil) (lf (o104 P))) (nd (o53 P) (nd (o88 PT P) (lf (o152 P)) .nil) (lf (o120 P))))))))
def Ir (P:Params):BT:=(nd (boot_o_0 P) (nd (boot_o_1 P) (nd (o158 P) (nd (boot_o_7 P) (nd (o6 P) (nd (o22 P) (nd (o54 PT P) (nd (o121 PT P) (lf (o252 PT P)) .nil) (lf (o188 P))) (nd (o89 P) (nd (o153 P) (lf (o284 P)) .nil) (lf (o220 P)))) (nd (o38 P) (nd (o73 P) (nd (o137 P) (lf (o268 P)) .nil) (lf (o204 P))) (nd (o105 PT P) (lf (o172 P)) (lf (o236 PT P))))) (nd (o14 P) (nd (o30 P) (nd (o65 P) (nd (o129 P) (lf (o260 P)) .nil) (lf (o196 PT P))) (nd (o97 PT P) (lf (o164 P)) (lf (o228 P)))) (nd (o46 P) (nd (o81 PT P) (nd (o145 P) (lf (o276 PT P)) .nil) (lf (o212 P))) (nd (o113 P) (lf (o180 P)) (lf (o244 P)))))) (nd (o0 P) (nd (o10 PT P) (nd (o26 PT P) (nd (o58 P) (nd (o125 P) (lf (o256 P)) .nil) (lf (o192 P))) (nd (o93 P) (lf (o157 P)) (lf (o224 PT P)))) (nd (o42 P) (nd (o77 P) (nd (o141 P) (lf (o272 P)) .nil) (lf (o208 PT P))) (nd (o109 P) (lf (o176 P)) (lf (o240 P))))) (nd (o18 P) (nd (o34 P) (nd (o69 P) (nd (o133 P) (lf (o264 PT P)) .nil) (lf (o200 P))) (nd (o101 P) (lf (o168 P)) (lf (o232 P)))) (nd (o50 P) (nd (o85 P) (nd (o149 PT P) (lf (o280 P)) .nil) (lf (o216 P))) (nd (o117 P) (lf (o184 P)) (lf (o248 P))))))) (nd (boot_o_5 P) (nd (boot_o_9 P) (nd (o8 P) (nd (o24 PT P) (nd (o56 P) (nd (o123 P) (lf (o254 P)) .nil) (lf (o190 P))) (nd (o91 P) (lf (o155 P)) (lf (o222 PT P)))) (nd (o40 P) (nd (o75 P) (nd (o139 P) (lf (o270 P)) .nil) (lf (o206 P))) (nd (o107 PT P) (lf (o174 P)) (lf (o238 PT P))))) (nd (o16 P) (nd (o32 P) (nd (o67 P) (nd (o131 P) (lf (o262 PT P)) .nil) (lf (o198 PT P))) (nd (o99 P) (lf (o166 P)) (lf (o230 P)))) (nd (o48 P) (nd (o83 PT P) (nd (o147 P) (lf (o278 PT P)) .nil) (lf (o214 P))) (nd (o115 P) (lf (o182 P)) (lf (o246 P)))))) (nd (o2 P) (nd (o12 PT P) (nd (o28 P) (nd (o63 P) (nd (o127 P) (lf (o258 P)) .nil) (lf (o194 P))) (nd (o95 PT P) (lf (o162 P)) (lf (o226 P)))) (nd (o44 P) (nd (o79 P) (nd (o143 P) (lf (o274 P)) .nil) (lf (o210 PT P))) (nd (o111 P) (lf (o178 P)) (lf (o242 P))))) (nd (o20 P) (nd (o36 P) (nd (o71 P) (nd (o135 P) (lf (o266 P)) .nil) (lf (o202 P))) (nd (o103 P) (lf (o170 P)) (lf (o234 P)))) (nd (o52 PT P) (nd (o87 P) (nd (o151 PT P) (lf (o282 P)) .nil) (lf (o218 P))) (nd (o119 PT P) (lf (o186 P)) (lf (o250 PT P)))))))) (nd (o60 P) (nd (boot_o_4 P) (nd (boot_o_8 P) (nd (o7 P) (nd (o23 P) (nd (o55 P) (nd (o122 P) (lf (o253 P)) .nil) (lf (o189 PT P))) (nd (o90 PT P) (nd (o160 P) (lf (o285 P)) .nil) (lf (o221 P)))) (nd (o39 P) (nd (o74 PT P) (nd (o138 P) (lf (o269 PT P)) .nil) (lf (o205 P))) (nd (o106 P) (lf (o173 P)) (lf (o237 P))))) (nd (o15 P) (nd (o31 PT P) (nd (o66 P) (nd (o130 P) (lf (o261 P)) .nil) (lf (o197 P))) (nd (o98 P) (lf (o165 P)) (lf (o229 PT P)))) (nd (o47 P) (nd (o82 P) (nd (o146 P) (lf (o277 P)) .nil) (lf (o213 P))) (nd (o114 PT P) (lf (o181 P)) (lf (o245 PT P)))))) (nd (o159 P) (nd (o11 P) (nd (o27 P) (nd (o59 P) (nd (o126 P) (lf (o257 PT P)) .nil) (lf (o193 P))) (nd (o94 P) (lf (o161 P)) (lf (o225 P)))) (nd (o43 P) (nd (o78 P) (nd (o142 PT P) (lf (o273 P)) .nil) (lf (o209 P))) (nd (o110 P) (lf (o177 PT P)) (lf (o241 P))))) (nd (o19 P) (nd (o35 P) (nd (o70 P) (nd (o134 P) (lf (o265 P)) .nil) (lf (o201 PT P))) (nd (o102 PT P) (lf (o169 P)) (lf (o233 P)))) (nd (o51 P) (nd (o86 P) (nd (o150 P) (lf (o281 P)) .nil) (lf (o217 PT P))) (nd (o118 P) (lf (o185 P)) (lf (o249 P))))))) (nd (boot_o_6 P) (nd (boot_o_10 P) (nd (o9 P) (nd (o25 P) (nd (o57 P) (nd (o124 P) (lf (o255 PT P)) .nil) (lf (o191 PT P))) (nd (o92 P) (lf (o156 P)) (lf (o223 P)))) (nd (o41 P) (nd (o76 PT P) (nd (o140 P) (lf (o271 PT P)) .nil) (lf (o207 P))) (nd (o108 P) (lf (o175 PT P)) (lf (o239 P))))) (nd (o17 P) (nd (o33 PT P) (nd (o68 P) (nd (o132 P) (lf (o263 P)) .nil) (lf (o199 P))) (nd (o100 PT P) (lf (o167 P)) (lf (o231 PT P)))) (nd (o49 P) (nd (o84 P) (nd (o148 P) (lf (o279 P)) .nil) (lf (o215 PT P))) (nd (o116 P) (lf (o183 P)) (lf (o247 P)))))) (nd (o3 P) (nd (o13 P) (nd (o29 P) (nd (o64 P) (nd (o128 P) (lf (o259 P)) .nil) (lf (o195 P))) (nd (o96 P) (lf (o163 P)) (lf (o227 P)))) (nd (o45 P) (nd (o80 P) (nd (o144 PT P) (lf (o275 P)) .nil) (lf (o211 P))) (nd (o112 PT P) (lf (o179 P)) (lf (o243 PT P))))) (nd (o21 P) (nd (o37 P) (nd (o72 P) (nd (o136 P) (lf (o267 P)) .nil) (lf (o203 PT P))) (nd (o104 P) (lf (o171 P)) (lf (o235 P)))) (nd (o53 P) (nd (o88 PT P) (nd (o152 P) (lf (o283 P)) .nil) (lf (o219 P))) (nd (o120 P) (lf (o187 P)) (lf (o251 P)))))))))
def Iq (P:Params):BT:=(nd (boot_o_0 P) (nd (boot_o_1 P) (nd (o286 P) (nd (boot_o_7 P) (nd (o6 P) (nd (o22 P) (nd (o54 PT P) (nd (o121 PT P) (lf (o252 PT P)) .nil) (nd (o188 P) (lf (o318 P)) .nil)) (nd (o89 P) (nd (o153 P) (lf (o284 P)) .nil) (nd (o220 P) (lf (o350 P)) .nil))) (nd (o38 P) (nd (o73 P) (nd (o137 P) (lf (o268 P)) .nil) (nd (o204 P) (lf (o334 PT P)) .nil)) (nd (o105 PT P) (nd (o172 P) (lf (o302 P)) .nil) (nd (o236 PT P) (lf (o366 P)) .nil)))) (nd (o14 P) (nd (o30 P) (nd (o65 P) (nd (o129 P) (lf (o260 P)) .nil) (nd (o196 PT P) (lf (o326 P)) .nil)) (nd (o97 PT P) (nd (o164 P) (lf (o294 P)) .nil) (nd (o228 P) (lf (o358 P)) .nil))) (nd (o46 P) (nd (o81 PT P) (nd (o145 P) (lf (o276 PT P)) .nil) (nd (o212 P) (lf (o342 P)) .nil)) (nd (o113 P) (nd (o180 P) (lf (o310 P)) .nil) (lf (o244 P)))))) (nd (o0 P) (nd (o10 PT P) (nd (o26 PT P) (nd (o58 P) (nd (o125 P) (lf (o256 P)) .nil) (nd (o192 P) (lf (o322 PT P)) .nil)) (nd (o93 P) (nd (o157 P) (lf (o290 P)) .nil) (nd (o224 PT P) (lf (o354 P)) .nil))) (nd (o42 P) (nd (o77 P) (nd (o141 P) (lf (o272 P)) .nil) (nd (o208 PT P) (lf (o338 P)) .nil)) (nd (o109 P) (nd (o176 P) (lf (o306 PT P)) .nil) (lf (o240 P))))) (nd (o18 P) (nd (o34 P) (nd (o69 P) (nd (o133 P) (lf (o264 PT P)) .nil) (nd (o200 P) (lf (o330 P)) .nil)) (nd (o101 P) (nd (o168 P) (lf (o298 P)) .nil) (nd (o232 P) (lf (o362 PT P)) .nil))) (nd (o50 P) (nd (o85 P) (nd (o149 PT P) (lf (o280 P)) .nil) (nd (o216 P) (lf (o346 PT P)) .nil)) (nd (o117 P) (nd (o184 P) (lf (o314 P)) .nil) (lf (o248 P))))))) (nd (boot_o_5 P) (nd (boot_o_9 P) (nd (o8 P) (nd (o24 PT P) (nd (o56 P) (nd (o123 P) (lf (o254 P)) .nil) (nd (o190 P) (lf (o320 PT P)) .nil)) (nd (o91 P) (nd (o155 P) (lf (o288 P)) .nil) (nd (o222 PT P) (lf (o352 P)) .nil))) (nd (o40 P) (nd (o75 P) (nd (o139 P) (lf (o270 P)) .nil) (nd (o206 P) (lf (o336 PT P)) .nil)) (nd (o107 PT P) (nd (o174 P) (lf (o304 P)) .nil) (nd (o238 PT P) (lf (o368 P)) .nil)))) (nd (o16 P) (nd (o32 P) (nd (o67 P) (nd (o131 P) (lf (o262 PT P)) .nil) (nd (o198 PT P) (lf (o328 P)) .nil)) (nd (o99 P) (nd (o166 P) (lf (o296 P)) .nil) (nd (o230 P) (lf (o360 PT P)) .nil))) (nd (o48 P) (nd (o83 PT P) (nd (o147 P) (lf (o278 PT P)) .nil) (nd (o214 P) (lf (o344 P)) .nil)) (nd (o115 P) (nd (o182 P) (lf (o312 P)) .nil) (lf (o246 P)))))) (nd (o2 P) (nd (o12 PT P) (nd (o28 P) (nd (o63 P) (nd (o127 P) (lf (o258 P)) .nil) (nd (o194 P) (lf (o324 P)) .nil)) (nd (o95 PT P) (nd (o162 P) (lf (o292 P)) .nil) (nd (o226 P) (lf (o356 P)) .nil))) (nd (o44 P) (nd (o79 P) (nd (o143 P) (lf (o274 P)) .nil) (nd (o210 PT P) (lf (o340 P)) .nil)) (nd (o111 P) (nd (o178 P) (lf (o308 PT P)) .nil) (lf (o242 P))))) (nd (o20 P) (nd (o36 P) (nd (o71 P) (nd (o135 P) (lf (o266 P)) .nil) (nd (o202 P) (lf (o332 P)) .nil)) (nd (o103 P) (nd (o170 P) (lf (o300 P)) .nil) (nd (o234 P) (lf (o364 P)) .nil))) (nd (o52 PT P) (nd (o87 P) (nd (o151 PT P) (lf (o282 P)) .nil) (nd (o218 P) (lf (o348 PT P)) .nil)) (nd (o119 PT P) (nd (o186 P) (lf (o316 P)) .nil) (lf (o250 PT P)))))))) (nd (o60 P) (nd (boot_o_4 P) (nd (boot_o_8 P) (nd (o7 P) (nd (o23 P) (nd (o55 P) (nd (o122 P) (lf (o253 P)) .nil) (nd (o189 PT P) (lf (o319 P)) .nil)) (nd (o90 PT P) (nd (o160 P) (lf (o285 P)) .nil) (nd (o221 P) (lf (o351 P)) .nil))) (nd (o39 P) (nd (o74 PT P) (nd (o138 P) (lf (o269 PT P)) .nil) (nd (o205 P) (lf (o335 P)) .nil)) (nd (o106 P) (nd (o173 P) (lf (o303 P)) .nil) (nd (o237 P) (lf (o367 P)) .nil)))) (nd (o15 P) (nd (o31 PT P) (nd (o66 P) (nd (o130 P) (lf (o261 P)) .nil) (nd (o197 P) (lf (o327 PT P)) .nil)) (nd (o98 P) (nd (o165 P) (lf (o295 P)) .nil) (nd (o229 PT P) (lf (o359 P)) .nil))) (nd (o47 P) (nd (o82 P) (nd (o146 P) (lf (o277 P)) .nil) (nd (o213 P) (lf (o343 P)) .nil)) (nd (o114 PT P) (nd (o181 P) (lf (o311 P)) .nil) (lf (o245 PT P)))))) (nd (o287 P) (nd (o11 P) (nd (o27 P) (nd (o59 P) (nd (o126 P) (lf (o257 PT P)) .nil) (nd (o193 P) (lf (o323 P)) .nil)) (nd (o94 P) (nd (o161 P) (lf (o291 P)) .nil) (nd (o225 P) (lf (o355 PT P)) .nil))) (nd (o43 P) (nd (o78 P) (nd (o142 PT P) (lf (o273 P)) .nil) (nd (o209 P) (lf (o339 PT P)) .nil)) (nd (o110 P) (nd (o177 PT P) (lf (o307 P)) .nil) (lf (o241 P))))) (nd (o19 P) (nd (o35 P) (nd (o70 P) (nd (o134 P) (lf (o265 P)) .nil) (nd (o201 PT P) (lf (o331 P)) .nil)) (nd (o102 PT P) (nd (o169 P) (lf (o299 PT P)) .nil) (nd (o233 P) (lf (o363 P)) .nil))) (nd (o51 P) (nd (o86 P) (nd (o150 P) (lf (o281 P)) .nil) (nd (o217 PT P) (lf (o347 P)) .nil)) (nd (o118 P) (nd (o185 P) (lf (o315 PT P)) .nil) (lf (o249 P))))))) (nd (boot_o_6 P) (nd (boot_o_10 P) (nd (o9 P) (nd (o25 P) (nd (o57 P) (nd (o124 P) (lf (o255 PT P)) .nil) (nd (o191 PT P) (lf (o321 P)) .nil)) (nd (o92 P) (nd (o156 P) (lf (o289 P)) .nil) (nd (o223 P) (lf (o353 PT P)) .nil))) (nd (o41 P) (nd (o76 PT P) (nd (o140 P) (lf (o271 PT P)) .nil) (nd (o207 P) (lf (o337 P)) .nil)) (nd (o108 P) (nd (o175 PT P) (lf (o305 P)) .nil) (nd (o239 P) (lf (o369 P)) .nil)))) (nd (o17 P) (nd (o33 PT P) (nd (o68 P) (nd (o132 P) (lf (o263 P)) .nil) (nd (o199 P) (lf (o329 PT P)) .nil)) (nd (o100 PT P) (nd (o167 P) (lf (o297 P)) .nil) (nd (o231 PT P) (lf (o361 P)) .nil))) (nd (o49 P) (nd (o84 P) (nd (o148 P) (lf (o279 P)) .nil) (nd (o215 PT P) (lf (o345 P)) .nil)) (nd (o116 P) (nd (o183 P) (lf (o313 PT P)) .nil) (lf (o247 P)))))) (nd (o3 P) (nd (o13 P) (nd (o29 P) (nd (o64 P) (nd (o128 P) (lf (o259 P)) .nil) (nd (o195 P) (lf (o325 P)) .nil)) (nd (o96 P) (nd (o163 P) (lf (o293 P)) .nil) (nd (o227 P) (lf (o357 P)) .nil))) (nd (o45 P) (nd (o80 P) (nd (o144 PT P) (lf (o275 P)) .nil) (nd (o211 P) (lf (o341 PT P)) .nil)) (nd (o112 PT P) (nd (o179 P) (lf (o309 P)) .nil) (lf (o243 PT P))))) (nd (o21 P) (nd (o37 P) (nd (o72 P) (nd (o136 P) (lf (o267 P)) .nil) (nd (o203 PT P) (lf (o333 P)) .nil)) (nd (o104 P) (nd (o171 P) (lf (o301 PT P)) .nil) (nd (o235 P) (lf (o365 P)) .nil))) (nd (o53 P) (nd (o88 PT P) (nd (o152 P) (lf (o283 P)) .nil) (nd (o219 P) (lf (o349 P)) .nil)) (nd (o120 P) (nd (o187 P) (lf (o317 P)) .nil) (lf (o251 P)))))))))
def Ip (P:Params):BT:=(nd (boot_o_0 P) (nd (boot_o_1 P) (nd (o370 P) (nd (boot_o_7 P) (nd (o6 P) (nd (o22 P) (nd (o54 PT P) (nd (o121 PT P) (nd (o252 PT P) (lf (o512 P)) .nil) (lf (o384 P))) (nd (o188 P) (lf (o318 P)) (lf (o448 P)))) (nd (o89 P) (nd (o153 P) (lf (o284 P)) (lf (o416 PT P))) (nd (o220 P) (lf (o350 P)) (lf (o480 P))))) (nd (o38 P) (nd (o73 P) (nd (o137 P) (lf (o268 P)) (lf (o400 PT P))) (nd (o204 P) (lf (o334 PT P)) (lf (o464 P)))) (nd (o105 PT P) (nd (o172 P) (lf (o302 P)) (lf (o432 P))) (nd (o236 PT P) (lf (o366 P)) (lf (o496 PT P)))))) (nd (o14 P) (nd (o30 P) (nd (o65 P) (nd (o129 P) (nd (o260 P) (lf (o520 PT P)) .nil) (lf (o392 PT P))) (nd (o196 PT P) (lf (o326 P)) (lf (o456 PT P)))) (nd (o97 PT P) (nd (o164 P) (lf (o294 P)) (lf (o424 P))) (nd (o228 P) (lf (o358 P)) (lf (o488 P))))) (nd (o46 P) (nd (o81 PT P) (nd (o145 P) (lf (o276 PT P)) (lf (o408 P))) (nd (o212 P) (lf (o342 P)) (lf (o472 PT P)))) (nd (o113 P) (nd (o180 P) (lf (o310 P)) (lf (o440 P))) (nd (o244 P) (lf (o376 P)) (lf (o504 P))))))) (nd (o0 P) (nd (o10 PT P) (nd (o26 PT P) (nd (o58 P) (nd (o125 P) (nd (o256 P) (lf (o516 P)) .nil) (lf (o388 P))) (nd (o192 P) (lf (o322 PT P)) (lf (o452 P)))) (nd (o93 P) (nd (o157 P) (lf (o290 P)) (lf (o420 P))) (nd (o224 PT P) (lf (o354 P)) (lf (o484 PT P))))) (nd (o42 P) (nd (o77 P) (nd (o141 P) (lf (o272 P)) (lf (o404 P))) (nd (o208 PT P) (lf (o338 P)) (lf (o468 P)))) (nd (o109 P) (nd (o176 P) (lf (o306 PT P)) (lf (o436 P))) (nd (o240 P) (lf (o372 P)) (lf (o500 P)))))) (nd (o18 P) (nd (o34 P) (nd (o69 P) (nd (o133 P) (nd (o264 PT P) (lf (o524 P)) .nil) (lf (o396 P))) (nd (o200 P) (lf (o330 P)) (lf (o460 P)))) (nd (o101 P) (nd (o168 P) (lf (o298 P)) (lf (o428 PT P))) (nd (o232 P) (lf (o362 PT P)) (lf (o492 P))))) (nd (o50 P) (nd (o85 P) (nd (o149 PT P) (lf (o280 P)) (lf (o412 P))) (nd (o216 P) (lf (o346 PT P)) (lf (o476 P)))) (nd (o117 P) (nd (o184 P) (lf (o314 P)) (lf (o444 PT P))) (nd (o248 P) (lf (o380 P)) (lf (o508 PT P)))))))) (nd (boot_o_5 P) (nd (boot_o_9 P) (nd (o8 P) (nd (o24 PT P) (nd (o56 P) (nd (o123 P) (nd (o254 P) (lf (o514 P)) .nil) (lf (o386 P))) (nd (o190 P) (lf (o320 PT P)) (lf (o450 P)))) (nd (o91 P) (nd (o155 P) (lf (o288 P)) (lf (o418 P))) (nd (o222 PT P) (lf (o352 P)) (lf (o482 PT P))))) (nd (o40 P) (nd (o75 P) (nd (o139 P) (lf (o270 P)) (lf (o402 PT P))) (nd (o206 P) (lf (o336 PT P)) (lf (o466 P)))) (nd (o107 PT P) (nd (o174 P) (lf (o304 P)) (lf (o434 P))) (nd (o238 PT P) (lf (o368 P)) (lf (o498 P)))))) (nd (o16 P) (nd (o32 P) (nd (o67 P) (nd (o131 P) (nd (o262 PT P) (lf (o522 PT P)) .nil) (lf (o394 P))) (nd (o198 PT P) (lf (o328 P)) (lf (o458 PT P)))) (nd (o99 P) (nd (o166 P) (lf (o296 P)) (lf (o426 P))) (nd (o230 P) (lf (o360 PT P)) (lf (o490 P))))) (nd (o48 P) (nd (o83 PT P) (nd (o147 P) (lf (o278 PT P)) (lf (o410 P))) (nd (o214 P) (lf (o344 P)) (lf (o474 P)))) (nd (o115 P) (nd (o182 P) (lf (o312 P)) (lf (o442 PT P))) (nd (o246 P) (lf (o378 P)) (lf (o506 P))))))) (nd (o2 P) (nd (o12 PT P) (nd (o28 P) (nd (o63 P) (nd (o127 P) (nd (o258 P) (lf (o518 P)) .nil) (lf (o390 PT P))) (nd (o194 P) (lf (o324 P)) (lf (o454 P)))) (nd (o95 PT P) (nd (o162 P) (lf (o292 P)) (lf (o422 P))) (nd (o226 P) (lf (o356 P)) (lf (o486 P))))) (nd (o44 P) (nd (o79 P) (nd (o143 P) (lf (o274 P)) (lf (o406 P))) (nd (o210 PT P) (lf (o340 P)) (lf (o470 PT P)))) (nd (o111 P) (nd (o178 P) (lf (o308 PT P)) (lf (o438 P))) (nd (o242 P) (lf (o374 P)) (lf (o502 P)))))) (nd (o20 P) (nd (o36 P) (nd (o71 P) (nd (o135 P) (nd (o266 P) (lf (o526 P)) .nil) (lf (o398 P))) (nd (o202 P) (lf (o332 P)) (lf (o462 P)))) (nd (o103 P) (nd (o170 P) (lf (o300 P)) (lf (o430 PT P))) (nd (o234 P) (lf (o364 P)) (lf (o494 PT P))))) (nd (o52 PT P) (nd (o87 P) (nd (o151 PT P) (lf (o282 P)) (lf (o414 PT P))) (nd (o218 P) (lf (o348 PT P)) (lf (o478 P)))) (nd (o119 PT P) (nd (o186 P) (lf (o316 P)) (lf (o446 P))) (nd (o250 PT P) (lf (o382 P)) (lf (o510 PT P))))))))) (nd (o60 P) (nd (boot_o_4 P) (nd (boot_o_8 P) (nd (o7 P) (nd (o23 P) (nd (o55 P) (nd (o122 P) (nd (o253 P) (lf (o513 P)) .nil) (lf (o385 PT P))) (nd (o189 PT P) (lf (o319 P)) (lf (o449 PT P)))) (nd (o90 PT P) (nd (o160 P) (lf (o285 P)) (lf (o417 P))) (nd (o221 P) (lf (o351 P)) (lf (o481 P))))) (nd (o39 P) (nd (o74 PT P) (nd (o138 P) (lf (o269 PT P)) (lf (o401 P))) (nd (o205 P) (lf (o335 P)) (lf (o465 PT P)))) (nd (o106 P) (nd (o173 P) (lf (o303 P)) (lf (o433 P))) (nd (o237 P) (lf (o367 P)) (lf (o497 P)))))) (nd (o15 P) (nd (o31 PT P) (nd (o66 P) (nd (o130 P) (nd (o261 P) (lf (o521 P)) .nil) (lf (o393 P))) (nd (o197 P) (lf (o327 PT P)) (lf (o457 P)))) (nd (o98 P) (nd (o165 P) (lf (o295 P)) (lf (o425 P))) (nd (o229 PT P) (lf (o359 P)) (lf (o489 PT P))))) (nd (o47 P) (nd (o82 P) (nd (o146 P) (lf (o277 P)) (lf (o409 PT P))) (nd (o213 P) (lf (o343 P)) (lf (o473 P)))) (nd (o114 PT P) (nd (o181 P) (lf (o311 P)) (lf (o441 P))) (nd (o245 PT P) (lf (o377 P)) (lf (o505 P))))))) (nd (o371 P) (nd (o11 P) (nd (o27 P) (nd (o59 P) (nd (o126 P) (nd (o257 PT P) (lf (o517 PT P)) .nil) (lf (o389 P))) (nd (o193 P) (lf (o323 P)) (lf (o453 P)))) (nd (o94 P) (nd (o161 P) (lf (o291 P)) (lf (o421 PT P))) (nd (o225 P) (lf (o355 PT P)) (lf (o485 P))))) (nd (o43 P) (nd (o78 P) (nd (o142 PT P) (lf (o273 P)) (lf (o405 P))) (nd (o209 P) (lf (o339 PT P)) (lf (o469 P)))) (nd (o110 P) (nd (o177 PT P) (lf (o307 P)) (lf (o437 PT P))) (nd (o241 P) (lf (o373 P)) (lf (o501 P)))))) (nd (o19 P) (nd (o35 P) (nd (o70 P) (nd (o134 P) (nd (o265 P) (lf (o525 PT P)) .nil) (lf (o397 PT P))) (nd (o201 PT P) (lf (o331 P)) (lf (o461 P)))) (nd (o102 PT P) (nd (o169 P) (lf (o299 PT P)) (lf (o429 P))) (nd (o233 P) (lf (o363 P)) (lf (o493 P))))) (nd (o51 P) (nd (o86 P) (nd (o150 P) (lf (o281 P)) (lf (o413 P))) (nd (o217 PT P) (lf (o347 P)) (lf (o477 PT P)))) (nd (o118 P) (nd (o185 P) (lf (o315 PT P)) (lf (o445 P))) (nd (o249 P) (lf (o381 P)) (lf (o509 P)))))))) (nd (boot_o_6 P) (nd (boot_o_10 P) (nd (o9 P) (nd (o25 P) (nd (o57 P) (nd (o124 P) (nd (o255 PT P) (lf (o515 PT P)) .nil) (lf (o387 P))) (nd (o191 PT P) (lf (o321 P)) (lf (o451 PT P)))) (nd (o92 P) (nd (o156 P) (lf (o289 P)) (lf (o419 P))) (nd (o223 P) (lf (o353 PT P)) (lf (o483 P))))) (nd (o41 P) (nd (o76 PT P) (nd (o140 P) (lf (o271 PT P)) (lf (o403 P))) (nd (o207 P) (lf (o337 P)) (lf (o467 P)))) (nd (o108 P) (nd (o175 PT P) (lf (o305 P)) (lf (o435 PT P))) (nd (o239 P) (lf (o369 P)) (lf (o499 P)))))) (nd (o17 P) (nd (o33 PT P) (nd (o68 P) (nd (o132 P) (nd (o263 P) (lf (o523 P)) .nil) (lf (o395 PT P))) (nd (o199 P) (lf (o329 PT P)) (lf (o459 P)))) (nd (o100 PT P) (nd (o167 P) (lf (o297 P)) (lf (o427 P))) (nd (o231 PT P) (lf (o361 P)) (lf (o491 P))))) (nd (o49 P) (nd (o84 P) (nd (o148 P) (lf (o279 P)) (lf (o411 P))) (nd (o215 PT P) (lf (o345 P)) (lf (o475 PT P)))) (nd (o116 P) (nd (o183 P) (lf (o313 PT P)) (lf (o443 P))) (nd (o247 P) (lf (o379 P)) (lf (o507 P))))))) (nd (o3 P) (nd (o13 P) (nd (o29 P) (nd (o64 P) (nd (o128 P) (nd (o259 P) (lf (o519 P)) .nil) (lf (o391 P))) (nd (o195 P) (lf (o325 P)) (lf (o455 P)))) (nd (o96 P) (nd (o163 P) (lf (o293 P)) (lf (o423 PT P))) (nd (o227 P) (lf (o357 P)) (lf (o487 PT P))))) (nd (o45 P) (nd (o80 P) (nd (o144 PT P) (lf (o275 P)) (lf (o407 PT P))) (nd (o211 P) (lf (o341 PT P)) (lf (o471 P)))) (nd (o112 PT P) (nd (o179 P) (lf (o309 P)) (lf (o439 P))) (nd (o243 PT P) (lf (o375 P)) (lf (o503 P)))))) (nd (o21 P) (nd (o37 P) (nd (o72 P) (nd (o136 P) (nd (o267 P) (lf (o527 PT P)) .nil) (lf (o399 P))) (nd (o203 PT P) (lf (o333 P)) (lf (o463 PT P)))) (nd (o104 P) (nd (o171 P) (lf (o301 PT P)) (lf (o431 P))) (nd (o235 P) (lf (o365 P)) (lf (o495 P))))) (nd (o53 P) (nd (o88 PT P) (nd (o152 P) (lf (o283 P)) (lf (o415 P))) (nd (o219 P) (lf (o349 P)) (lf (o479 P)))) (nd (o120 P) (nd (o187 P) (lf (o317 P)) (lf (o447 P))) (nd (o251 P) (lf (o383 PT P)) (lf (o511 P))))))))))
def Io (P:Params):BT:=(nd (boot_o_0 P) (nd (boot_o_1 P) (nd (o528 P) (nd (boot_o_7 P) (nd (o6 P) (nd (o22 P) (nd (o54 PT P) (nd (o121 PT P) (nd (o252 PT P) (lf (o512 P)) .nil) (lf (o384 P))) (nd (o188 P) (lf (o318 P)) (lf (o448 P)))) (nd (o89 P) (nd (o153 P) (nd (o284 P) (lf (o546 PT P)) .nil) (lf (o416 PT P))) (nd (o220 P) (lf (o350 P)) (lf (o480 P))))) (nd (o38 P) (nd (o73 P) (nd (o137 P) (nd (o268 P) (lf (o530 P)) .nil) (lf (o400 PT P))) (nd (o204 P) (lf (o334 PT P)) (lf (o464 P)))) (nd (o105 PT P) (nd (o172 P) (lf (o302 P)) (lf (o432 P))) (nd (o236 PT P) (lf (o366 P)) (lf (o496 PT P)))))) (nd (o14 P) (nd (o30 P) (nd (o65 P) (nd (o129 P) (nd (o260 P) (lf (o520 PT P)) .nil) (lf (o392 PT P))) (nd (o196 PT P) (lf (o326 P)) (lf (o456 PT P)))) (nd (o97 PT P) (nd (o164 P) (lf (o294 P)) (lf (o424 P))) (nd (o228 P) (lf (o358 P)) (lf (o488 P))))) (nd (o46 P) (nd (o81 PT P) (nd (o145 P) (nd (o276 PT P) (lf (o538 P)) .nil) (lf (o408 P))) (nd (o212 P) (lf (o342 P)) (lf (o472 PT P)))) (nd (o113 P) (nd (o180 P) (lf (o310 P)) (lf (o440 P))) (nd (o244 P) (lf (o376 P)) (lf (o504 P))))))) (nd (o0 P) (nd (o10 PT P) (nd (o26 PT P) (nd (o58 P) (nd (o125 P) (nd (o256 P) (lf (o516 P)) .nil) (lf (o388 P))) (nd (o192 P) (lf (o322 PT P)) (lf (o452 P)))) (nd (o93 P) (nd (o157 P) (lf (o290 P)) (lf (o420 P))) (nd (o224 PT P) (lf (o354 P)) (lf (o484 PT P))))) (nd (o42 P) (nd (o77 P) (nd (o141 P) (nd (o272 P) (lf (o534 PT P)) .nil) (lf (o404 P))) (nd (o208 PT P) (lf (o338 P)) (lf (o468 P)))) (nd (o109 P) (nd (o176 P) (lf (o306 PT P)) (lf (o436 P))) (nd (o240 P) (lf (o372 P)) (lf (o500 P)))))) (nd (o18 P) (nd (o34 P) (nd (o69 P) (nd (o133 P) (nd (o264 PT P) (lf (o524 P)) .nil) (lf (o396 P))) (nd (o200 P) (lf (o330 P)) (lf (o460 P)))) (nd (o101 P) (nd (o168 P) (lf (o298 P)) (lf (o428 PT P))) (nd (o232 P) (lf (o362 PT P)) (lf (o492 P))))) (nd (o50 P) (nd (o85 P) (nd (o149 PT P) (nd (o280 P) (lf (o542 P)) .nil) (lf (o412 P))) (nd (o216 P) (lf (o346 PT P)) (lf (o476 P)))) (nd (o117 P) (nd (o184 P) (lf (o314 P)) (lf (o444 PT P))) (nd (o248 P) (lf (o380 P)) (lf (o508 PT P)))))))) (nd (boot_o_5 P) (nd (boot_o_9 P) (nd (o8 P) (nd (o24 PT P) (nd (o56 P) (nd (o123 P) (nd (o254 P) (lf (o514 P)) .nil) (lf (o386 P))) (nd (o190 P) (lf (o320 PT P)) (lf (o450 P)))) (nd (o91 P) (nd (o155 P) (lf (o288 P)) (lf (o418 P))) (nd (o222 PT P) (lf (o352 P)) (lf (o482 PT P))))) (nd (o40 P) (nd (o75 P) (nd (o139 P) (nd (o270 P) (lf (o532 P)) .nil) (lf (o402 PT P))) (nd (o206 P) (lf (o336 PT P)) (lf (o466 P)))) (nd (o107 PT P) (nd (o174 P) (lf (o304 P)) (lf (o434 P))) (nd (o238 PT P) (lf (o368 P)) (lf (o498 P)))))) (nd (o16 P) (nd (o32 P) (nd (o67 P) (nd (o131 P) (nd (o262 PT P) (lf (o522 PT P)) .nil) (lf (o394 P))) (nd (o198 PT P) (lf (o328 P)) (lf (o458 PT P)))) (nd (o99 P) (nd (o166 P) (lf (o296 P)) (lf (o426 P))) (nd (o230 P) (lf (o360 PT P)) (lf (o490 P))))) (nd (o48 P) (nd (o83 PT P) (nd (o147 P) (nd (o278 PT P) (lf (o540 P)) .nil) (lf (o410 P))) (nd (o214 P) (lf (o344 P)) (lf (o474 P)))) (nd (o115 P) (nd (o182 P) (lf (o312 P)) (lf (o442 PT P))) (nd (o246 P) (lf (o378 P)) (lf (o506 P))))))) (nd (o2 P) (nd (o12 PT P) (nd (o28 P) (nd (o63 P) (nd (o127 P) (nd (o258 P) (lf (o518 P)) .nil) (lf (o390 PT P))) (nd (o194 P) (lf (o324 P)) (lf (o454 P)))) (nd (o95 PT P) (nd (o162 P) (lf (o292 P)) (lf (o422 P))) (nd (o226 P) (lf (o356 P)) (lf (o486 P))))) (nd (o44 P) (nd (o79 P) (nd (o143 P) (nd (o274 P) (lf (o536 PT P)) .nil) (lf (o406 P))) (nd (o210 PT P) (lf (o340 P)) (lf (o470 PT P)))) (nd (o111 P) (nd (o178 P) (lf (o308 PT P)) (lf (o438 P))) (nd (o242 P) (lf (o374 P)) (lf (o502 P)))))) (nd (o20 P) (nd (o36 P) (nd (o71 P) (nd (o135 P) (nd (o266 P) (lf (o526 P)) .nil) (lf (o398 P))) (nd (o202 P) (lf (o332 P)) (lf (o462 P)))) (nd (o103 P) (nd (o170 P) (lf (o300 P)) (lf (o430 PT P))) (nd (o234 P) (lf (o364 P)) (lf (o494 PT P))))) (nd (o52 PT P) (nd (o87 P) (nd (o151 PT P) (nd (o282 P) (lf (o544 PT P)) .nil) (lf (o414 PT P))) (nd (o218 P) (lf (o348 PT P)) (lf (o478 P)))) (nd (o119 PT P) (nd (o186 P) (lf (o316 P)) (lf (o446 P))) (nd (o250 PT P) (lf (o382 P)) (lf (o510 PT P))))))))) (nd (o60 P) (nd (boot_o_4 P) (nd (boot_o_8 P) (nd (o7 P) (nd (o23 P) (nd (o55 P) (nd (o122 P) (nd (o253 P) (lf (o513 P)) .nil) (lf (o385 PT P))) (nd (o189 PT P) (lf (o319 P)) (lf (o449 PT P)))) (nd (o90 PT P) (nd (o160 P) (lf (o285 P)) (lf (o417 P))) (nd (o221 P) (lf (o351 P)) (lf (o481 P))))) (nd (o39 P) (nd (o74 PT P) (nd (o138 P) (nd (o269 PT P) (lf (o531 P)) .nil) (lf (o401 P))) (nd (o205 P) (lf (o335 P)) (lf (o465 PT P)))) (nd (o106 P) (nd (o173 P) (lf (o303 P)) (lf (o433 P))) (nd (o237 P) (lf (o367 P)) (lf (o497 P)))))) (nd (o15 P) (nd (o31 PT P) (nd (o66 P) (nd (o130 P) (nd (o261 P) (lf (o521 P)) .nil) (lf (o393 P))) (nd (o197 P) (lf (o327 PT P)) (lf (o457 P)))) (nd (o98 P) (nd (o165 P) (lf (o295 P)) (lf (o425 P))) (nd (o229 PT P) (lf (o359 P)) (lf (o489 PT P))))) (nd (o47 P) (nd (o82 P) (nd (o146 P) (nd (o277 P) (lf (o539 PT P)) .nil) (lf (o409 PT P))) (nd (o213 P) (lf (o343 P)) (lf (o473 P)))) (nd (o114 PT P) (nd (o181 P) (lf (o311 P)) (lf (o441 P))) (nd (o245 PT P) (lf (o377 P)) (lf (o505 P))))))) (nd (o529 P) (nd (o11 P) (nd (o27 P) (nd (o59 P) (nd (o126 P) (nd (o257 PT P) (lf (o517 PT P)) .nil) (lf (o389 P))) (nd (o193 P) (lf (o323 P)) (lf (o453 P)))) (nd (o94 P) (nd (o161 P) (lf (o291 P)) (lf (o421 PT P))) (nd (o225 P) (lf (o355 PT P)) (lf (o485 P))))) (nd (o43 P) (nd (o78 P) (nd (o142 PT P) (nd (o273 P) (lf (o535 P)) .nil) (lf (o405 P))) (nd (o209 P) (lf (o339 PT P)) (lf (o469 P)))) (nd (o110 P) (nd (o177 PT P) (lf (o307 P)) (lf (o437 PT P))) (nd (o241 P) (lf (o373 P)) (lf (o501 P)))))) (nd (o19 P) (nd (o35 P) (nd (o70 P) (nd (o134 P) (nd (o265 P) (lf (o525 PT P)) .nil) (lf (o397 PT P))) (nd (o201 PT P) (lf (o331 P)) (lf (o461 P)))) (nd (o102 PT P) (nd (o169 P) (lf (o299 PT P)) (lf (o429 P))) (nd (o233 P) (lf (o363 P)) (lf (o493 P))))) (nd (o51 P) (nd (o86 P) (nd (o150 P) (nd (o281 P) (lf (o543 P)) .nil) (lf (o413 P))) (nd (o217 PT P) (lf (o347 P)) (lf (o477 PT P)))) (nd (o118 P) (nd (o185 P) (lf (o315 PT P)) (lf (o445 P))) (nd (o249 P) (lf (o381 P)) (lf (o509 P)))))))) (nd (boot_o_6 P) (nd (boot_o_10 P) (nd (o9 P) (nd (o25 P) (nd (o57 P) (nd (o124 P) (nd (o255 PT P) (lf (o515 PT P)) .nil) (lf (o387 P))) (nd (o191 PT P) (lf (o321 P)) (lf (o451 PT P)))) (nd (o92 P) (nd (o156 P) (lf (o289 P)) (lf (o419 P))) (nd (o223 P) (lf (o353 PT P)) (lf (o483 P))))) (nd (o41 P) (nd (o76 PT P) (nd (o140 P) (nd (o271 PT P) (lf (o533 P)) .nil) (lf (o403 P))) (nd (o207 P) (lf (o337 P)) (lf (o467 P)))) (nd (o108 P) (nd (o175 PT P) (lf (o305 P)) (lf (o435 PT P))) (nd (o239 P) (lf (o369 P)) (lf (o499 P)))))) (nd (o17 P) (nd (o33 PT P) (nd (o68 P) (nd (o132 P) (nd (o263 P) (lf (o523 P)) .nil) (lf (o395 PT P))) (nd (o199 P) (lf (o329 PT P)) (lf (o459 P)))) (nd (o100 PT P) (nd (o167 P) (lf (o297 P)) (lf (o427 P))) (nd (o231 PT P) (lf (o361 P)) (lf (o491 P))))) (nd (o49 P) (nd (o84 P) (nd (o148 P) (nd (o279 P) (lf (o541 PT P)) .nil) (lf (o411 P))) (nd (o215 PT P) (lf (o345 P)) (lf (o475 PT P)))) (nd (o116 P) (nd (o183 P) (lf (o313 PT P)) (lf (o443 P))) (nd (o247 P) (lf (o379 P)) (lf (o507 P))))))) (nd (o3 P) (nd (o13 P) (nd (o29 P) (nd (o64 P) (nd (o128 P) (nd (o259 P) (lf (o519 P)) .nil) (lf (o391 P))) (nd (o195 P) (lf (o325 P)) (lf (o455 P)))) (nd (o96 P) (nd (o163 P) (lf (o293 P)) (lf (o423 PT P))) (nd (o227 P) (lf (o357 P)) (lf (o487 PT P))))) (nd (o45 P) (nd (o80 P) (nd (o144 PT P) (nd (o275 P) (lf (o537 P)) .nil) (lf (o407 PT P))) (nd (o211 P) (lf (o341 PT P)) (lf (o471 P)))) (nd (o112 PT P) (nd (o179 P) (lf (o309 P)) (lf (o439 P))) (nd (o243 PT P) (lf (o375 P)) (lf (o503 P)))))) (nd (o21 P) (nd (o37 P) (nd (o72 P) (nd (o136 P) (nd (o267 P) (lf (o527 PT P)) .nil) (lf (o399 P))) (nd (o203 PT P) (lf (o333 P)) (lf (o463 PT P)))) (nd (o104 P) (nd (o171 P) (lf (o301 PT P)) (lf (o431 P))) (nd (o235 P) (lf (o365 P)) (lf (o495 P))))) (nd (o53 P) (nd (o88 PT P) (nd (o152 P) (nd (o283 P) (lf (o545 P)) .nil) (lf (o415 P))) (nd (o219 P) (lf (o349 P)) (lf (o479 P)))) (nd (o120 P) (nd (o187 P) (lf (o317 P)) (lf (o447 P))) (nd (o251 P) (lf (o383 PT P)) (lf (o511 P))))))))))
def Zo (p:Program) (P:Params):List Obj:=[boot_o_0 P,boot_o_1 P,o60 P,o528 P,boot_o_4 P,boot_o_5 P,boot_o_6 P,boot_o_7 P,boot_o_8 P,boot_o_9 P,boot_o_10 P,o0 P,o529 P,o2 P,o3 P,o6 P,o7 P,o8 P,o9 P,o10 p P,o11 P,o12 p P,o13 P,o14 P,o15 P,o16 P,o17 P,o18 P,o19 P,o20 P,o21 P,o22 P,o23 P,o24 p P,o25 P,o26 p P,o27 P,o28 P,o29 P,o30 P,o31 p P,o32 P,o33 p P,o34 P,o35 P,o36 P,o37 P,o38 P,o39 P,o40 P,o41 P,o42 P,o43 P,o44 P,o45 P,o46 P,o47 P,o48 P,o49 P,o50 P,o51 P,o52 p P,o53 P,o54 p P,o55 P,o56 P,o57 P,o58 P,o59 P,o63 P,o64 P,o65 P,o66 P,o67 P,o68 P,o69 P,o70 P,o71 P,o72 P,o73 P,o74 p P,o75 P,o76 p P,o77 P,o78 P,o79 P,o80 P,o81 p P,o82 P,o83 p P,o84 P,o85 P,o86 P,o87 P,o88 p P,o89 P,o90 p P,o91 P,o92 P,o93 P,o94 P,o95 p P,o96 P,o97 p P,o98 P,o99 P,o100 p P,o101 P,o102 p P,o103 P,o104 P,o105 p P,o106 P,o107 p P,o108 P,o109 P,o110 P,o111 P,o112 p P,o113 P,o114 p P,o115 P,o116 P,o117 P,o118 P,o119 p P,o120 P,o121 p P,o122 P,o123 P,o124 P,o125 P,o126 P,o127 P,o128 P,o129 P,o130 P,o131 P,o132 P,o133 P,o134 P,o135 P,o136 P,o137 P,o138 P,o139 P,o140 P,o141 P,o142 p P,o143 P,o144 p P,o145 P,o146 P,o147 P,o148 P,o149 p P,o150 P,o151 p P,o152 P,o153 P,o160 P,o155 P,o156 P,o157 P,o161 P,o162 P,o163 P,o164 P,o165 P,o166 P,o167 P,o168 P,o169 P,o170 P,o171 P,o172 P,o173 P,o174 P,o175 p P,o176 P,o177 p P,o178 P,o179 P,o180 P,o181 P,o182 P,o183 P,o184 P,o185 P,o186 P,o187 P,o188 P,o189 p P,o190 P,o191 p P,o192 P,o193 P,o194 P,o195 P,o196 p P,o197 P,o198 p P,o199 P,o200 P,o201 p P,o202 P,o203 p P,o204 P,o205 P,o206 P,o207 P,o208 p P,o209 P,o210 p P,o211 P,o212 P,o213 P,o214 P,o215 p P,o216 P,o217 p P,o218 P,o219 P,o220 P,o221 P,o222 p P,o223 P,o224 p P,o225 P,o226 P,o227 P,o228 P,o229 p P,o230 P,o231 p P,o232 P,o233 P,o234 P,o235 P,o236 p P,o237 P,o238 p P,o239 P,o240 P,o241 P,o242 P,o243 p P,o244 P,o245 p P,o246 P,o247 P,o248 P,o249 P,o250 p P,o251 P,o252 p P,o253 P,o254 P,o255 p P,o256 P,o257 p P,o258 P,o259 P,o260 P,o261 P,o262 p P,o263 P,o264 p P,o265 P,o266 P,o267 P,o268 P,o269 p P,o270 P,o271 p P,o272 P,o273 P,o274 P,o275 P,o276 p P,o277 P,o278 p P,o279 P,o280 P,o281 P,o282 P,o283 P,o284 P,o285 P,o288 P,o289 P,o290 P,o291 P,o292 P,o293 P,o294 P,o295 P,o296 P,o297 P,o298 P,o299 p P,o300 P,o301 p P,o302 P,o303 P,o304 P,o305 P,o306 p P,o307 P,o308 p P,o309 P,o310 P,o311 P,o312 P,o313 p P,o314 P,o315 p P,o316 P,o317 P,o318 P,o319 P,o320 p P,o321 P,o322 p P,o323 P,o324 P,o325 P,o326 P,o327 p P,o328 P,o329 p P,o330 P,o331 P,o332 P,o333 P,o334 p P,o335 P,o336 p P,o337 P,o338 P,o339 p P,o340 P,o341 p P,o342 P,o343 P,o344 P,o345 P,o346 p P,o347 P,o348 p P,o349 P,o350 P,o351 P,o352 P,o353 p P,o354 P,o355 p P,o356 P,o357 P,o358 P,o359 P,o360 p P,o361 P,o362 p P,o363 P,o364 P,o365 P,o366 P,o367 P,o368 P,o369 P,o372 P,o373 P,o374 P,o375 P,o376 P,o377 P,o378 P,o379 P,o380 P,o381 P,o382 P,o383 p P,o384 P,o385 p P,o386 P,o387 P,o388 P,o389 P,o390 p P,o391 P,o392 p P,o393 P,o394 P,o395 p P,o396 P,o397 p P,o398 P,o399 P,o400 p P,o401 P,o402 p P,o403 P,o404 P,o405 P,o406 P,o407 p P,o408 P,o409 p P,o410 P,o411 P,o412 P,o413 P,o414 p P,o415 P,o416 p P,o417 P,o418 P,o419 P,o420 P,o421 p P,o422 P,o423 p P,o424 P,o425 P,o426 P,o427 P,o428 p P,o429 P,o430 p P,o431 P,o432 P,o433 P,o434 P,o435 p P,o436 P,o437 p P,o438 P,o439 P,o440 P,o441 P,o442 p P,o443 P,o444 p P,o445 P,o446 P,o447 P,o448 P,o449 p P,o450 P,o451 p P,o452 P,o453 P,o454 P,o455 P,o456 p P,o457 P,o458 p P,o459 P,o460 P,o461 P,o462 P,o463 p P,o464 P,o465 p P,o466 P,o467 P,o468 P,o469 P,o470 p P,o471 P,o472 p P,o473 P,o474 P,o475 p P,o476 P,o477 p P,o478 P,o479 P,o480 P,o481 P,o482 p P,o483 P,o484 p P,o485 P,o486 P,o487 p P,o488 P,o489 p P,o490 P,o491 P,o492 P,o493 P,o494 p P,o495 P,o496 p P,o497 P,o498 P,o499 P,o500 P,o501 P,o502 P,o503 P,o504 P,o505 P,o506 P,o507 P,o508 p P,o509 P,o510 p P,o511 P,o512 P,o513 P,o514 P,o515 p P,o516 P,o517 p P,o518 P,o519 P,o520 p P,o521 P,o522 p P,o523 P,o524 P,o525 p P,o526 P,o527 p P,o530 P,o531 P,o532 P,o533 P,o534 p P,o535 P,o536 p P,o537 P,o538 P,o539 p P,o540 P,o541 p P,o542 P,o543 P,o544 p P,o545 P,o546 p P]
def mQ (P:Params):Heap:=⟨⟨Zo PT P⟩,fW⟩
noncomputable def Ia:List Addr:=List.range 544
def KF (p:Program) (P:Params):Frag:=Ia.zip (Zo p P)
theorem oB (p:Program):∀P,Ia=(KF p P).map (·.1):=λ P=>by kernel_rfl
noncomputable def bT:List Stmt:=behindTheImports PT
noncomputable def yO:Env:=⟨PT.main.scope,mainNs,mainNs,[],Str.empty,none,.ref 13,some 14,0⟩
noncomputable abbrev cT:Code:=.body bT yO
noncomputable abbrev p0:Pos:=⟨0,0,0,0⟩
noncomputable abbrev BB:List Frame:=[topFrame p0]
noncomputable abbrev pR:Option Value:=some (.ref 6)
noncomputable abbrev d0:Drawn:=⟨0,0,0,0⟩
theorem Vu:∀w:World,(λ os=>topGo treeTable PT w 11 pR 12 ⟨boot_heap w.params,⟨[]⟩,boot_drawn,boot_toks,os⟩ (topStub PT))=λ os=>some (⟨J3 w.params,⟨[]⟩,d0,187,os⟩,⟨denote treeTable cT,cT,p0,BB⟩):=by
 intro w;rw[PySem.W.Fast.te15667345088766844465,PySem.W.Fast.te14364793385576792824,PySem.W.Fast.te11892475500146522536];kernel_rfl
theorem H1:∀w:World,(λ os=>segRun treeTable PT w 11 pR 1 1 ⟨J3 w.params,⟨[]⟩,d0,187,os⟩ (blockOf bT yO cT p0 BB))=λ os=>some (Flow.next,SharedT.abs ⟨Im w.params,15,fW,⟨[]⟩,d0,187,os⟩,cT,p0):=by
 intro w;rw[PySem.W.Fast.te14374325043358763698,PySem.W.Fast.te14364793385576792824];kernel_rfl
noncomputable def L2:List Stmt:=qM 4 (mV 0 bT)
theorem CG:∀w:World,(λ os=>segRunT treeTable PT w 11 pR 1 539 ⟨Im w.params,15,fW,⟨[]⟩,d0,187,os⟩ (piecesOf L2 yO cT p0 BB))=λ os=>some (Flow.next,⟨Iu w.params,69,fW,⟨[]⟩,d0,259,os⟩,cT,⟨14,0,17,58⟩):=by
 intro w;rw[PySem.W.Fast.te10110043849684766642,PySem.W.Fast.te14364793385576792824];kernel_rfl
noncomputable def L1:List Stmt:=qM 3 (mV 4 bT)
theorem CF:∀w:World,(λ os=>segRunT treeTable PT w 11 pR 1 727 ⟨Iu w.params,69,fW,⟨[]⟩,d0,259,os⟩ (piecesOf L1 yO cT ⟨14,0,17,58⟩ BB))=λ os=>some (Flow.next,⟨It w.params,164,fW,⟨[]⟩,d0,384,os⟩,cT,⟨73,0,80,24⟩):=by
 intro w;rw[PySem.W.Fast.te10110043849684766642,PySem.W.Fast.te14364793385576792824];kernel_rfl
noncomputable def L0:List Stmt:=qM 5 (mV 7 bT)
theorem CE:∀w:World,(λ os=>segRunT treeTable PT w 11 pR 1 890 ⟨It w.params,164,fW,⟨[]⟩,d0,384,os⟩ (piecesOf L0 yO cT ⟨73,0,80,24⟩ BB))=λ os=>some (Flow.next,⟨Ir w.params,289,fW,⟨[]⟩,d0,541,os⟩,cT,⟨153,0,153,8⟩):=by
 intro w;rw[PySem.W.Fast.te10110043849684766642,PySem.W.Fast.te14364793385576792824];kernel_rfl
noncomputable def Lz:List Stmt:=qM 2 (mV 12 bT)
theorem CD:∀w:World,(λ os=>segRunT treeTable PT w 11 pR 1 519 ⟨Ir w.params,289,fW,⟨[]⟩,d0,541,os⟩ (piecesOf Lz yO cT ⟨153,0,153,8⟩ BB))=λ os=>some (Flow.next,⟨Iq w.params,371,fW,⟨[]⟩,d0,645,os⟩,cT,⟨200,0,200,8⟩):=by
 intro w;rw[PySem.W.Fast.te10110043849684766642,PySem.W.Fast.te14364793385576792824];kernel_rfl
noncomputable def Ly:List Stmt:=qM 6 (mV 14 bT)
theorem CC:∀w:World,(λ os=>segRunT treeTable PT w 11 pR 1 885 ⟨Iq w.params,371,fW,⟨[]⟩,d0,645,os⟩ (piecesOf Ly yO cT ⟨200,0,200,8⟩ BB))=λ os=>some (Flow.next,⟨Ip w.params,527,fW,⟨[]⟩,d0,845,os⟩,cT,⟨305,0,316,16⟩):=by
 intro w;rw[PySem.W.Fast.te10110043849684766642,PySem.W.Fast.te14364793385576792824];kernel_rfl
noncomputable def Lx:List Stmt:=qM 3 (mV 20 bT)
theorem CB:∀w:World,(λ os=>segRunT treeTable PT w 11 pR 1 88 ⟨Ip w.params,527,fW,⟨[]⟩,d0,845,os⟩ (piecesOf Lx yO cT ⟨305,0,316,16⟩ BB))=λ os=>some (Flow.next,⟨Io w.params,544,fW,⟨[]⟩,d0,870,os⟩,cT,⟨335,0,365,15⟩):=by
 intro w;rw[PySem.W.Fast.te10110043849684766642,PySem.W.Fast.te14364793385576792824];kernel_rfl
theorem Vv:∀w:World,(λ os=>topRun treeTable PT w 11 pR 2 (SharedT.abs ⟨Io w.params,544,fW,⟨[]⟩,d0,870,os⟩) ⟨doneF .next,cT,⟨335,0,365,15⟩,BB⟩)=λ os=>some ⟨mQ w.params,⟨[]⟩,d0,870,os⟩:=by
 intro w;rw[PySem.W.Fast.te14082659384304107361,PySem.W.Fast.te14364793385576792824];kernel_rfl
theorem Eg:bT=L2++(L1++(L0++(Lz++(Ly++(Lx++[]))))):=by kernel_rfl
noncomputable def MM0:Nat:=(Nat.add 12 (Nat.add 1 (Nat.add 539 (Nat.add 727 (Nat.add 890 (Nat.add 519 (Nat.add 885 (Nat.add 88 2))))))))
theorem Vt (w:World) (os:OsState):topRun treeTable PT w 11 pR MM0 ⟨boot_heap w.params,⟨[]⟩,boot_drawn,boot_toks,os⟩ (topStub PT)=some ⟨mQ w.params,⟨[]⟩,d0,870,os⟩:=by
 refine go_top (congrFun (Vu w) os) (piece_block (congrFun (H1 w) os) ?_)
 rw[Eg]
 refine piece_app (segRun_of (congrFun (CG w) os)) ?_
 refine piece_app (segRun_of (congrFun (CF w) os)) ?_
 refine piece_app (segRun_of (congrFun (CE w) os)) ?_
 refine piece_app (segRun_of (congrFun (CD w) os)) ?_
 refine piece_app (segRun_of (congrFun (CC w) os)) ?_
 refine piece_app (segRun_of (congrFun (CB w) os)) ?_
 exact congrFun (Vv w) os
theorem Lb:∀w:World,((boot_heap w.params).isNs mainGlobals&&(Array.mk ([]:List GenState)).size==0,(boot_heap w.params).objs.size,(boot_heap w.params).nsMap mainGlobals "__annotations__")=(true,11,pR):=by
 intro w;rw[PySem.W.Fast.te8920871248978507458];kernel_rfl
theorem Lc:∀w:World,(fencedOpening treeTable PT w 7410).map (λ s=>(s.heap,s.gens,s.drawn,s.toks))=some (boot_heap w.params,Array.mk [],boot_drawn,boot_toks):=
 boot_open (by kernel_rfl) (by decide) (λ s=>by kernel_rfl)
noncomputable def qF (p:Program):Program:={p with main:={p.main with body:=[bI p 22]} }
def qV:List Str:=[z13,z14,z15,z36,z37,z67,z68,z69,z105,z130,z131,z132,z133,z134,z171,z172]
noncomputable def CH (p:Program):Shared→Bool:=λ s=>xlAt (qF p) [] s&&recOk (RowW.records PySem.Challenge.rw_sa0037_01.row.toRowW) s
noncomputable def Kb (p:Program):Prop:=LeftO p (qF p) qV (CH p) (Hook.obs (kHook (KF p) Ia (oB p))) (Hook.val (kHook (KF p) Ia (oB p))) 7410
theorem Gd:∀w:World,(λ os=>(staticsOk (importedModules PT.main.body) (boot_heap w.params) (mQ w.params)&&namesBound PT (mQ w.params)&&gensDone ⟨mQ w.params,Array.mk [],d0,870,os⟩&&laidKept (boot_heap w.params) (mQ w.params)))=λ (os:OsState)=>true:=by
 intro w;rw[PySem.W.Fast.te5923862056798008813];kernel_rfl
theorem Gc:∀w:World,(λ (os:OsState)=>openSeen (qF PT) qV (importedModules PT.main.body) (CH PT) true ⟨mQ w.params,Array.mk [],d0,870,os⟩)=λ (os:OsState)=>openGood (qF PT) qV:=by
 intro w;rw[PySem.W.Fast.te4187177175401517315,PySem.W.Fast.te5923862056798008813];kernel_rfl
theorem G4 {α:Type} (l:List α):∀k:Nat,(List.range' k l.length).map (λ i=>l[i-k]?)=((List.range' k l.length).zip l).map λ p=>some p.2:=by
 induction l with
 | nil=>exact λ _=>rfl
 | cons a r ih=>
  intro k
  rw[List.length_cons,List.range'_succ,List.map_cons,List.zip_cons_cons,List.map_cons,←ih (k+1),Nat.sub_self]
  refine congrArg (_:: ·) (List.map_congr_left λ i hi=>?_)
  have:=(List.mem_range'_1.mp hi).1
  rw[show i-k=(i-(k+1))+1 by omega];rfl
theorem Dw (l:List Obj) (f:Life) (n:Nat) (h:l.length=n) (h2:l.all (λ o=>match o with | ⟨_,_,.freed,_⟩=>false | _=>true)=true):(List.range n).map (Heap.mk ⟨l⟩ f).get? =((List.range n).zip l).map λ p=>some p.2:=by
 subst h
 have e:=G4 l 0
 rw[←List.range_eq_range'] at e
 refine Eq.trans (List.map_congr_left λ i _=>?_) e
 unfold Heap.get?
 rw[List.getElem?_toArray]
 split
 ·rename_i h3
  have:=List.all_eq_true.mp h2 _ (List.mem_of_getElem? h3)
  cases this
 ·rfl
theorem Gb:∀w:World,(λ (os:OsState)=>Ia.map (mQ w.params).get?)=λ (os:OsState)=>(KF PT w.params).map λ p=>some p.2:=
 λ w=>funext λ _=>Dw (Zo PT w.params) fW 544 (by kernel_rfl) (by kernel_rfl)
theorem K9:Kb PT:=
 LeftO.of_pieces (H₀:=boot_heap) (H₁:=mQ) (gs₀:=Array.mk []) (gs₁:=Array.mk []) (d₀:=boot_drawn) (d₁:=d0) (k₀:=boot_toks) (k₁:=870) (m₀:=11) (ann:=pR) (M:=MM0)
  Lc Lb Vt (by kernel_rfl) λ w=>funext λ os=>Prod.ext (congrFun (Gd w) os) (Prod.ext (congrFun (Gc w) os) (congrFun (Gb w) os))
theorem K8:Kb PySem.Challenge.pw_sa0037_01:=by rw[pT];exact K9
noncomputable def Lj:Params→Frag:=KF PySem.Challenge.pw_sa0037_01
noncomputable def qY:DefRec:=⟨"law",H4 (bI PySem.Challenge.pw_sa0037_01 22),bE (bI PySem.Challenge.pw_sa0037_01 22),jM (bI PySem.Challenge.pw_sa0037_01 22),(bI PySem.Challenge.pw_sa0037_01 22).pos⟩
noncomputable def Vp:OpenLaw:=⟨PT,z173,[z36,z41],7,some 63,none,false⟩
theorem Hv:PySem.Challenge.rw_sa0037_01=Vp:=by
 unfold PySem.Challenge.rw_sa0037_01 Vp;rw[pT,Ko,q36,q41]
theorem L3:OpenLaw.wellSaid PySem.Challenge.rw_sa0037_01=true:=by rw[Hv,PySem.W.Fast.te9446332074065402090];kernel_rfl
set_option maxHeartbeats 8000000 in
theorem Vs (walk:WalkO (qF PySem.Challenge.pw_sa0037_01) qV (XL (qF PySem.Challenge.pw_sa0037_01) []) (kHook Lj Ia (oB _)).says PySem.Challenge.rw_sa0037_01.row.toRowW
  qY [] λ f vs=>PySem.call f vs):PySem.Challenge.rw_sa0037_01.Holds:=by
 refine holds_law L3 λ said=>?_
 refine PySem.W.holds_open (d:=qY) (kwd:=[]) (q:=qF PySem.Challenge.pw_sa0037_01) (loose:=qV) (N:=7410) (Xt:=CH PySem.Challenge.pw_sa0037_01) (XP:=XL (qF PySem.Challenge.pw_sa0037_01) []) (Yf:=Hook.obs (kHook Lj Ia (oB _))) (Ya:=Hook.val (kHook Lj Ia (oB _))) (YP:=Hook.says (kHook Lj Ia (oB _)))
  K8 (Hook.of _) (Hook.keeps _) (λ s e=>xl_of s (Bool.and_eq_true_iff.mp e).1) XL.keeps ?_ ?_ ?_ (λ s e=>recFacts_of (Bool.and_eq_true_iff.mp e).2) (by rfl) (by assumption) ?_ ⟨rfl,rfl,rfl,rfl,rfl,by decide+kernel⟩ ?_ walk
 ·rfl
 ·rfl
 ·rfl
 ·decide+kernel
 ·w_witness2
noncomputable abbrev KK (w:World):Frag:=KF PT w.params
inductive AV where
 | none | bool (b:Bool) | int (i:Int) | str (s:Str) | ref (a:Addr) | tup (l:List AV) | lit (v:Value) | any
 deriving Inhabited
mutual
noncomputable def bH (h:Heap):AV→Value→Prop
 | .none,v=>v= .none
 | .bool b,v=>v= .bool b
 | .int i,v=>∃t,v= .int i t
 | .str x,v=>∃t,v= .str x t
 | .ref a,v=>v= .ref a
 | .tup l,v=>∃a items,v= .ref a∧h.get? a=some ⟨.type "tuple",none,.seq items 0,#[]⟩∧items.size≤100000∧aO h l items.toList
 | .lit u,v=>v=u
 | .any,_=>True
noncomputable def aO (h:Heap):List AV→List Value→Prop
 | [],vs=>vs=[]
 | x::r,vs=>∃v vr,vs=v::vr∧bH h x v∧aO h r vr
end
noncomputable abbrev cB (items:Array Value):Obj:=⟨.type "tuple",none,.seq items 0,#[]⟩
noncomputable def Ev (h h':Heap):Prop:=∀a items,h.get? a=some (cB items)→h'.get? a=some (cB items)
theorem Ev.refl (h:Heap):Ev h h:=λ _ _ e=>e
theorem Ev.trans {a b c:Heap} (x:Ev a b) (y:Ev b c):Ev a c:=λ p o e=>y p o (x p o e)
theorem Ev.keeps {h h':Heap} (k:∀b o,h.get? b=some o→h'.get? b=some o):Ev h h':=λ a _ e=>k a _ e
theorem Ev.but {h h':Heap} {a:Addr} {o:Obj} (ho:h.get? a=some o) (hc:∀items,o≠cB items) (hs:Heap.ExtBut a h h'):Ev h h':=λ b p e=>by
 by_cases q:b=a
 ·subst q;rw[ho] at e;cases e;exact absurd rfl (hc p)
 ·exact hs b _ q e
mutual
theorem bH.ev {h h':Heap} (e:Ev h h'):∀{x:AV} {v:Value},bH h x v→bH h' x v
 | .none,_,q=>q
 | .bool _,_,q=>q
 | .int _,_,q=>q
 | .str _,_,q=>q
 | .ref _,_,q=>q
 | .lit _,_,q=>q
 | .any,_,_=>trivial
 | .tup l,v,q=>by
  unfold bH at q⊢
  obtain ⟨a,items,h1,h2,h2',h3⟩:=q
  exact ⟨a,items,h1,e _ _ h2,h2',aO.ev e h3⟩
theorem aO.ev {h h':Heap} (e:Ev h h'):∀{xs:List AV} {vs:List Value},aO h xs vs→aO h' xs vs
 | [],_,q=>by unfold aO at q⊢;exact q
 | x::r,vs,q=>by
  unfold aO at q⊢
  obtain ⟨v,vr,h1,h2,h3⟩:=q
  exact ⟨v,vr,h1,bH.ev e h2,aO.ev e h3⟩
end
theorem aO.nil {h:Heap}:aO h [] []:=by unfold aO;rfl
theorem aO.cons {h:Heap} {x:AV} {xs:List AV} {v:Value} {vs:List Value} (a:bH h x v) (b:aO h xs vs):aO h (x::xs) (v::vs):=by
 unfold aO;exact ⟨v,vs,rfl,a,b⟩
theorem aO.nil_inv {h:Heap} {vs:List Value} (q:aO h [] vs):vs=[]:=by unfold aO at q;exact q
theorem aO.cons_inv {h:Heap} {x:AV} {xs:List AV} {vs:List Value} (q:aO h (x::xs) vs):∃v vr,vs=v::vr∧bH h x v∧aO h xs vr:=by
 unfold aO at q;exact q
theorem aO.length {h:Heap}:∀{xs:List AV} {vs:List Value},aO h xs vs→vs.length=xs.length
 | [],_,q=>by rw[q.nil_inv];rfl
 | x::r,vs,q=>by
  obtain ⟨v,vr,rfl,_,h3⟩:=q.cons_inv
  simp[aO.length h3]
theorem aO.append {h:Heap}:∀{xs ys:List AV} {us vs:List Value},aO h xs us→aO h ys vs→aO h (xs++ys) (us++vs)
 | [],_,us,_,a,b=>by rw[a.nil_inv];exact b
 | x::r,_,us,_,a,b=>by
  obtain ⟨v,vr,rfl,h2,h3⟩:=a.cons_inv
  exact aO.cons h2 (h3.append b)
theorem aO.get {h:Heap}:∀{xs:List AV} {vs:List Value} {i:Nat} {x:AV},aO h xs vs→xs[i]? =some x→∃v,vs[i]? =some v∧bH h x v
 | [],_,_,_,_,e=>by simp at e
 | y::r,vs,0,x,q,e=>by
  obtain ⟨v,vr,rfl,h2,h3⟩:=q.cons_inv
  simp at e;subst e
  exact ⟨v,rfl,h2⟩
 | y::r,vs,i+1,x,q,e=>by
  obtain ⟨v,vr,rfl,h2,h3⟩:=q.cons_inv
  simp at e
  obtain ⟨u,hu,q⟩:=aO.get h3 e
  exact ⟨u,by simpa using hu,q⟩
theorem aO.get' {h:Heap} {xs:List AV} {vs:List Value} {i:Nat} {v:Value} (q:aO h xs vs) (e:vs[i]? =some v):∃x,xs[i]? =some x∧bH h x v:=by
 have hl:=q.length
 have:i<xs.length:=by have:=(List.getElem?_eq_some_iff.mp e).1;exact P2 hl this
 obtain ⟨u,hu,r⟩:=q.get (List.getElem?_eq_getElem this)
 rw[e] at hu;cases hu
 exact ⟨_,List.getElem?_eq_getElem this,r⟩
theorem aO.take {h:Heap}:∀{xs:List AV} {vs:List Value} (n:Nat),aO h xs vs→aO h (xs.take n) (vs.take n)
 | [],_,n,q=>by rw[q.nil_inv];simp;exact .nil
 | x::r,vs,0,q=>by simp;exact .nil
 | x::r,vs,n+1,q=>by
  obtain ⟨v,vr,rfl,h2,h3⟩:=q.cons_inv
  simp only[List.take_succ_cons]
  exact .cons h2 (h3.take n)
theorem aO.drop {h:Heap}:∀{xs:List AV} {vs:List Value} (n:Nat),aO h xs vs→aO h (xs.drop n) (vs.drop n)
 | [],_,n,q=>by rw[q.nil_inv];simp;exact .nil
 | x::r,vs,0,q=>by simpa using q
 | x::r,vs,n+1,q=>by
  obtain ⟨v,vr,rfl,h2,h3⟩:=q.cons_inv
  simp only[List.drop_succ_cons]
  exact h3.drop n
theorem aO.set {h:Heap}:∀{xs:List AV} {vs:List Value} {i:Nat} {x:AV} {v:Value},aO h xs vs→bH h x v→aO h (xs.set i x) (vs.set i v)
 | [],_,i,_,_,q,_=>by rw[q.nil_inv];simp;exact .nil
 | y::r,vs,0,x,v,q,e=>by
  obtain ⟨u,vr,rfl,h2,h3⟩:=q.cons_inv
  exact .cons e h3
 | y::r,vs,i+1,x,v,q,e=>by
  obtain ⟨u,vr,rfl,h2,h3⟩:=q.cons_inv
  exact .cons h2 (h3.set e)
inductive bZ where
 | s (x:Str) | i (n:Int)
 deriving DecidableEq
noncomputable def bZ.is:bZ→Value→Bool
 | .s x,v=>Value.isStrOf x v
 | .i n,v=>Value.isInt n v
theorem bZ.shape {k:bZ} {v:Value} (h:k.is v=true):(∃x t,k= .s x∧v= .str x t)∨∃n t,k= .i n∧v= .int n t:=by
 cases k with
 | s x=>obtain ⟨t,rfl⟩:=Value.isStrOf_shape h;exact .inl ⟨x,t,rfl,rfl⟩
 | i n=>obtain ⟨t,rfl⟩:=Value.isInt_shape h;exact .inr ⟨n,t,rfl,rfl⟩
section
variable {prog:Program} {w:World} {A:Around} {E:Value→Shared→Prop} {s:Shared}
theorem rW {a:Str} {t:Tok} {b:Int} {u:Tok} {Q:Bool→Shared→Prop} (h:Q false s):wpAny (model prog w) A (eqBool (.str a t) (.int b u)) Q E s:=by
 unfold eqBool
 refine wpAny_holding ?_
 show wpAny _ _ (richCompare .Eq (Value.str a t) (Value.int b u)>>=truthOfDropped) Q E s
 exact wpAny_bind (EqMixed.eq_str_int (wpAny_truthy_bool h))
theorem rX {a:Int} {t:Tok} {b:Str} {u:Tok} {Q:Bool→Shared→Prop} (h:Q false s):wpAny (model prog w) A (eqBool (.int a t) (.str b u)) Q E s:=by
 unfold eqBool
 refine wpAny_holding ?_
 show wpAny _ _ (richCompare .Eq (Value.int a t) (Value.str b u)>>=truthOfDropped) Q E s
 exact wpAny_bind (EqMixed.eq_int_str (wpAny_truthy_bool h))
end
noncomputable def bZ.hash (w:World) (prog:Program):bZ→Int
 | .s x=>(strKind prog w).hash x
 | .i n=>(intKind prog w).hash n
noncomputable def jX (prog:Program) (w:World):KeyKind prog w bZ where
 is:=bZ.is
 hash:=bZ.hash w prog
 inj:=λ v a b ha hb=>by
  rcases bZ.shape ha with ⟨x,t,rfl,rfl⟩ | ⟨n,t,rfl,rfl⟩<;>rcases bZ.shape hb with ⟨y,u,rfl,e⟩ | ⟨m,u,rfl,e⟩<;>cases e<;>rfl
 byValue:=λ k v h=>by rcases bZ.shape h with ⟨x,t,rfl,rfl⟩ | ⟨n,t,rfl,rfl⟩<;>rfl
 pyHash:=λ hv h=>by
  rcases bZ.shape hv with ⟨x,t,rfl,rfl⟩ | ⟨n,t,rfl,rfl⟩
  ·exact (strKind prog w).pyHash (strKind_is prog w x t) h
  ·exact (intKind prog w).pyHash (intKind_is prog w n t) h
 eqBool:=λ hu hv h=>by
  rcases bZ.shape hu with ⟨x,t,rfl,rfl⟩ | ⟨n,t,rfl,rfl⟩<;>rcases bZ.shape hv with ⟨y,u,rfl,rfl⟩ | ⟨m,u,rfl,rfl⟩
  ·exact (strKind prog w).eqBool (strKind_is prog w x t) (strKind_is prog w y u) (by simpa using h)
  ·exact rW (by simpa using h)
  ·exact rX (by simpa using h)
  ·exact (intKind prog w).eqBool (intKind_is prog w n t) (intKind_is prog w m u) (by simpa using h)
 «strs» :=λ k x t v h=>by
  rcases bZ.shape h with ⟨y,u,rfl,e⟩ | ⟨n,u,rfl,e⟩
  ·cases e;exact (strKind prog w).«strs» x x t v (strKind_is prog w x t)
  ·cases e
noncomputable abbrev aW (prog:Program) (w:World):HeapKind prog w (List bZ):=tupleKind (jX prog w)
noncomputable def bZ.av:bZ→AV
 | .s x=>.str x
 | .i n=>.int n
theorem bZ.is_of {h:Heap} {k:bZ} {v:Value} (q:bH h k.av v):k.is v=true:=by
 cases k with
 | s x=>unfold bZ.av bH at q;obtain ⟨t,rfl⟩:=q;simp[bZ.is,Value.isStrOf]
 | i n=>unfold bZ.av bH at q;obtain ⟨t,rfl⟩:=q;simp[bZ.is,Value.isInt]
theorem yG {prog:Program} {w:World} {h:Heap}:∀{ks:List bZ} {vs:List Value},aO h (ks.map bZ.av) vs→ItemsAre (jX prog w) ks vs
 | [],vs,q=>by rw[q.nil_inv];exact .nil
 | k::r,vs,q=>by
  obtain ⟨v,vr,rfl,h2,h3⟩:=q.cons_inv
  exact .cons (bZ.is_of h2) (yG h3)
theorem iN {prog:Program} {w:World} {h:Heap} {ks:List bZ} {v:Value} (q:bH h (.tup (ks.map bZ.av)) v):
  ∃a items,v= .ref a∧h.get? a=some (cB items)∧items.size≤100000∧(aW prog w).is h ks a:=by
 unfold bH at q
 obtain ⟨a,items,rfl,h2,h2',h3⟩:=q
 exact ⟨a,items,rfl,h2,h2',_,items,0,h2,rfl,rfl,yG h3⟩
inductive Tg where
 | t (n:Nat) | u (n i:Nat)
 deriving DecidableEq
theorem dK {a b:Tg} (h:decide (a=b)=false):a≠b:=of_decide_eq_false h
theorem nn {α:Type} {p:α→Prop}:∀x,x∈([]:List α)→p x:=λ _ h=>absurd h List.not_mem_nil
inductive AO where
 | list (xs:List AV)
 | idict (es:List (Int×AV))
 | tdict (es:List (List bZ×AV))
 | inst (C d:Addr)
 | ns (m:List (Str×AV))
 | range (lo hi:Int)
 | enum (J:Addr)
 | lit (l:Addr)
 | raw (P:Heap→Addr→Prop)
 deriving Inhabited
structure J8 (P:Heap→Addr→Prop) (a:Addr):Prop where
 mono:∀h h',Ev h h'→(∀o,h.get? a=some o→h'.get? a=some o)→P h a→P h' a
 obj:∀h,P h a→∃o,h.get? a=some o∧∀items,o≠cB items
noncomputable def bO (h:Heap):List (Str×AV)→List DictEntry→Prop
 | [],es=>es=[]
 | (x,av)::r,es=>∃e er t,es=e::er∧e.key= .str x t∧bH h av e.val∧bO h r er
noncomputable def xC (p:Program) (w:World) (h:Heap) (a:Addr):AO→Prop
 | .list xs=>∃items n,h.get? a=some (listOf items n)∧aO h xs items.toList
 | .idict es=>∃kvs,h.DictOf (intKind p w) a kvs∧kvs.map (·.1)=es.map (·.1)∧aO h (es.map (·.2)) (kvs.map (·.2))
 | .tdict es=>∃xs,h.DictOfH (aW p w) a xs∧xs.map (·.1)=es.map (·.1)∧aO h (es.map (·.2)) (xs.map (·.2.2))∧
   ∀x∈xs,∃items,h.get? x.2.1=some (cB items)
 | .inst C d=>h.get? a=some (instObj C d)
 | .ns m=>∃es n,h.get? a=some (dictOf es n)∧bO h m es
 | .range lo hi=>∃t u v,IsRange h a lo hi 1 t u v
 | .enum J=>∃old,IsEnum h a J 0 old
 | .lit l=>h.IsListIter a l 0
 | .raw P=>J8 P a∧P h a
theorem bO.ev {h h':Heap} (e:Ev h h'):∀{m:List (Str×AV)} {es:List DictEntry},bO h m es→bO h' m es
 | [],_,q=>q
 | (_,_)::_,_,⟨d,er,t,h1,h2,h3,h4⟩=>⟨d,er,t,h1,h2,h3.ev e,bO.ev e h4⟩
theorem xC.mono {p:Program} {w:World} {h h':Heap} {a:Addr} (e:Ev h h') (k:∀o,h.get? a=some o→h'.get? a=some o):∀{ao:AO},xC p w h a ao→xC p w h' a ao:=by
 intro ao q
 cases ao with
 | list=>obtain ⟨items,n,h1,h2⟩:=q;exact ⟨items,n,k _ h1,h2.ev e⟩
 | idict=>obtain ⟨kvs,⟨o,es,ep,ho,r⟩,h2,h3⟩:=q;exact ⟨kvs,⟨o,es,ep,k _ ho,r⟩,h2,h3.ev e⟩
 | tdict=>
  obtain ⟨xs,⟨o,es,ep,ho,hc,hd,he,his,hn⟩,h2,h3,h4⟩:=q
  refine ⟨xs,⟨o,es,ep,k _ ho,hc,hd,he,λ x hx=>?_,hn⟩,h2,h3.ev e,λ x hx=>let ⟨i,hi⟩:=h4 x hx;⟨i,e _ _ hi⟩⟩
  obtain ⟨o',items,n,ho',hc',hd',hi⟩:=his x hx
  obtain ⟨its,hits⟩:=h4 x hx
  rw[hits] at ho';cases ho'
  exact ⟨_,items,n,e _ _ hits,hc',hd',hi⟩
 | inst=>exact k _ q
 | ns=>obtain ⟨es,n,h1,h2⟩:=q;exact ⟨es,n,k _ h1,h2.ev e⟩
 | range=>obtain ⟨t,u,v,h1⟩:=q;exact ⟨t,u,v,k _ h1⟩
 | enum=>obtain ⟨o,h1⟩:=q;exact ⟨o,k _ h1⟩
 | lit=>obtain ⟨o,h1,r⟩:=q;exact ⟨o,k _ h1,r⟩
 | raw=>obtain ⟨ok,q⟩:=q;exact ⟨ok,ok.mono _ _ e k q⟩
theorem xC.obj {p:Program} {w:World} {h:Heap} {a:Addr}:∀{ao:AO},xC p w h a ao→∃o,h.get? a=some o∧∀items,o≠cB items:=by
 intro ao q
 have ne:∀{x y:Obj},x.cls≠y.cls→x≠y:=λ h e=>h (congrArg Obj.cls e)
 cases ao with
 | list=>obtain ⟨items,n,h1,h2⟩:=q;exact ⟨_,h1,λ _=>ne (by simp)⟩
 | idict=>obtain ⟨kvs,⟨o,es,ep,ho,hc,hd,r⟩,h2,h3⟩:=q;exact ⟨o,ho,λ _ e=>by subst e;cases hd⟩
 | tdict=>obtain ⟨xs,⟨o,es,ep,ho,hc,hd,r⟩,h2⟩:=q;exact ⟨o,ho,λ _ e=>by subst e;cases hd⟩
 | inst=>exact ⟨_,q,λ _=>ne (by simp)⟩
 | ns=>obtain ⟨es,n,h1,h2⟩:=q;exact ⟨_,h1,λ _=>ne (by simp)⟩
 | range=>obtain ⟨t,u,v,h1⟩:=q;exact ⟨_,h1,λ _=>ne (by simp)⟩
 | enum=>obtain ⟨o,h1⟩:=q;exact ⟨_,h1,λ _=>ne (by simp)⟩
 | lit=>obtain ⟨o,h1,hc,r⟩:=q;exact ⟨o,h1,λ _ e=>by subst e;cases r⟩
 | raw=>obtain ⟨ok,q⟩:=q;exact ok.obj _ q
theorem xC.lt {p:Program} {w:World} {h:Heap} {a:Addr} {ao:AO} (q:xC p w h a ao):a<h.objs.size:=let ⟨_,h,_⟩:=q.obj;Heap.lt_size h
structure Cx where
 prog:Program
 w:World
 h₀:Heap
 os:OsState
 A:Around
 n:Nat
noncomputable abbrev aV:=Str→Option AV
noncomputable abbrev aF:=Addr→Option (Tg×AO)
noncomputable abbrev dC:=Addr→Option Obj
noncomputable def aF.put (σ:aF) (a:Addr) (x:Tg×AO):aF:=λ b=>if b=a then some x else σ b
noncomputable def aF.del (σ:aF) (a:Addr):aF:=λ b=>if b=a then none else σ b
@[simp] theorem aF.put_same (σ:aF) (a:Addr) (x:Tg×AO):σ.put a x a=some x:=by simp[aF.put]
theorem aF.put_ne (σ:aF) {a b:Addr} (x:Tg×AO) (h:b≠a):σ.put a x b=σ b:=by simp[aF.put,h]
theorem aF.put_tag {σ:aF} {a b:Addr} {t t':Tg} {o o':AO} (x:Tg×AO) (ha:σ a=some (t,o)) (hb:σ b=some (t',o')) (h:t'≠t):σ.put a x b=some (t',o'):=by
 rw[aF.put_ne,hb]
 rintro rfl
 rw[ha] at hb;cases hb;exact h rfl
theorem aF.put_new {σ:aF} {a b:Addr} {y:Tg×AO} (x:Tg×AO) (ha:σ a=none) (hb:σ b=some y):σ.put a x b=some y:=by
 rw[aF.put_ne,hb]
 rintro rfl
 rw[ha] at hb;cases hb
noncomputable def aV.put (l:aV) (x:Str) (v:AV):aV:=λ y=>if y=x then some v else l y
structure xA (c:Cx):Prop where
 kx:(KK c.w).In c.h₀
 lim:c.h₀.NoLimit
 glob:∃mg mb,c.h₀.Ns mainGlobals mg∧c.h₀.Ns builtinsNs mb∧∀x:Str,x≠"__name__"→mb x=bootBuiltins x
 hand:c.A.handled=none
 deep:c.A.depth+3*c.n<recursionLimit
 room:c.A.units+12*c.n+20<cLine
noncomputable def fE (h:Heap):Option AV→Option Value→Prop
 | none,v=>v=none
 | some x,v=>∃u,v=some u∧bH h x u
theorem fE.ev {h h':Heap} (e:Ev h h'):∀{x:Option AV} {v:Option Value},fE h x v→fE h' x v
 | none,_,q=>q
 | some _,_,⟨u,a,b⟩=>⟨u,a,b.ev e⟩
structure Sat0 (c:Cx) (σ:aF) (ρ:dC) (s:Shared):Prop where
 base:xA c
 keep:∀b o,c.h₀.get? b=some o→s.heap.get? b=some o
 obj:∀a t ao,σ a=some (t,ao)→xC c.prog c.w s.heap a ao
 own:∀a x,σ a=some x→c.h₀.get? a=none∧ρ a=none
 hid:∀a o,ρ a=some o→s.heap.get? a=some o
 gens:s.gens=#[]
 os:s.os=c.os
structure iV (c:Cx) (env:Env) (loc:aV) (σ:aF) (ρ:dC) (h:Heap):Prop where
 kind:env.scope.kind= .function
 glob:env.globals=mainGlobals
 bu:env.builtins=builtinsNs
 locs:∃m,h.Ns env.locals m∧∀x,env.kindOf x=some .local→fE h (loc x) (m x)
 lown:c.h₀.get? env.locals=none∧σ env.locals=none∧ρ env.locals=none
 cell:∀x a,(x,a)∈env.cells→∃v,h.IsCell a v∧fE h (loc x) v
 cown:∀x a,(x,a)∈env.cells→c.h₀.get? a=none∧σ a=none∧ρ a=none∧a≠env.locals
 capart:env.cells.Pairwise λ x y=>x.2≠y.2
 above:∀b o,c.h₀.get? b=some o→b<env.locals
structure bJ (c:Cx) (env:Env) (loc:aV) (σ:aF) (ρ:dC) (s:Shared):Prop extends Sat0 c σ ρ s where
 fr:iV c env loc σ ρ s.heap
theorem Sat0.lt {c:Cx} {σ:aF} {ρ:dC} {s:Shared} (x:Sat0 c σ ρ s) {a:Addr} {y:Tg×AO} (e:σ a=some y):a<s.heap.objs.size:=(x.obj a y.1 y.2 e).lt
theorem Sat0.fresh {c:Cx} {σ:aF} {ρ:dC} {s:Shared} (x:Sat0 c σ ρ s) {a:Addr} (h:s.heap.objs.size≤a):σ a=none∧ρ a=none∧c.h₀.get? a=none:=by
 refine ⟨?_,?_,?_⟩
 ·cases e:σ a with
  | none=>rfl
  | some y=>exact absurd (x.lt e) (Nat.not_lt.mpr h)
 ·cases e:ρ a with
  | none=>rfl
  | some y=>exact absurd (Heap.lt_size (x.hid a y e)) (Nat.not_lt.mpr h)
 ·cases e:c.h₀.get? a with
  | none=>rfl
  | some y=>exact absurd (Heap.lt_size (x.keep a y e)) (Nat.not_lt.mpr h)
theorem Sat0.change {c:Cx} {σ:aF} {ρ:dC} {s s':Shared} (x:Sat0 c σ ρ s) (P:Addr→Prop) (hg:s'.gens=s.gens) (ho:s'.os=s.os)
  (k:∀b o,¬P b→s.heap.get? b=some o→s'.heap.get? b=some o) (e:Ev s.heap s'.heap) (hP:∀b,P b→c.h₀.get? b=none∧σ b=none∧ρ b=none):Sat0 c σ ρ s' where
 base:=x.base
 keep:=λ b o q=>k b o (λ z=>by rw[(hP b z).1] at q;cases q) (x.keep b o q)
 obj:=λ a t ao q=>(x.obj a t ao q).mono e λ o z=>k a o (λ z=>by rw[(hP a z).2.1] at q;cases q) z
 own:=x.own
 hid:=λ a o q=>k a o (λ z=>by rw[(hP a z).2.2] at q;cases q) (x.hid a o q)
 gens:=hg.trans x.gens
 os:=ho.trans x.os
theorem iV.change {c:Cx} {env:Env} {loc:aV} {σ:aF} {ρ:dC} {h h':Heap} (x:iV c env loc σ ρ h) (P:Addr→Prop)
  (k:∀b o,¬P b→h.get? b=some o→h'.get? b=some o) (e:Ev h h') (hP:∀b,P b→b≠env.locals∧∀n,(n,b)∉env.cells):iV c env loc σ ρ h' where
 kind:=x.kind
 glob:=x.glob
 bu:=x.bu
 locs:=let ⟨m,⟨o,es,ep,ho,r⟩,q⟩:=x.locs;⟨m,⟨o,es,ep,k _ _ (λ z=>(hP _ z).1 rfl) ho,r⟩,λ y hy=>(q y hy).ev e⟩
 lown:=x.lown
 cell:=λ n a q=>let ⟨v,⟨o,ho,r⟩,z⟩:=x.cell n a q;⟨v,⟨o,k _ _ (λ z=>(hP _ z).2 n q) ho,r⟩,z.ev e⟩
 cown:=x.cown
 capart:=x.capart
 above:=x.above
section
variable {c:Cx} {env:Env} {loc:aV} {σ:aF} {ρ:dC} {s s':Shared} {a:Addr}
theorem Ev.ofBut {h h':Heap} {p:Program} {w:World} {ao:AO} (q:xC p w h a ao) (k:Heap.ExtBut a h h'):Ev h h':=
  let ⟨_,ho,hc⟩:=q.obj;Ev.but ho hc k
theorem Sat0.put (x:Sat0 c σ ρ s) (hg:s'.gens=s.gens) (ho:s'.os=s.os) {y:Tg×AO} (k:Heap.ExtBut a s.heap s'.heap) (e:Ev s.heap s'.heap)
    (hn:c.h₀.get? a=none∧ρ a=none) (q:xC c.prog c.w s'.heap a y.2):Sat0 c (σ.put a y) ρ s' where
  base:=x.base
  keep:=λ b o z=>k b o (λ z'=>by subst z';rw[hn.1] at z;cases z) (x.keep b o z)
  obj:=λ b t ao z=>by
    by_cases hb:b=a
    · subst hb;rw[aF.put_same] at z;cases z;exact q
    · rw[aF.put_ne σ y hb] at z;exact (x.obj b t ao z).mono e λ o z=>k b o hb z
  own:=λ b z h=>by
    by_cases hb:b=a
    · subst hb;exact hn
    · rw[aF.put_ne σ y hb] at h;exact x.own b z h
  hid:=λ b o z=>k b o (λ z'=>by subst z';rw[hn.2] at z;cases z) (x.hid b o z)
  gens:=hg.trans x.gens
  os:=ho.trans x.os
theorem iV.put {h h':Heap} (x:iV c env loc σ ρ h) {y:Tg×AO} (k:Heap.ExtBut a h h') (e:Ev h h') (hn:a≠env.locals∧∀n,(n,a)∉env.cells):
    iV c env loc (σ.put a y) ρ h':=
  let z:=x.change (· =a) (λ b o p q=>k b o p q) e (λ b p=>by subst p;exact hn)
  {z with
    lown:=⟨z.lown.1,by rw[aF.put_ne σ y (Ne.symm hn.1)];exact z.lown.2.1,z.lown.2.2⟩
    cown:=λ n b m=>by
      have q:=z.cown n b m
      refine ⟨q.1,?_,q.2.2⟩
      rw[aF.put_ne σ y (λ r=>by subst r;exact hn.2 n m)];exact q.2.1}
theorem bJ.put (x:bJ c env loc σ ρ s) (hg:s'.gens=s.gens) (ho:s'.os=s.os) {y:Tg×AO} (k:Heap.ExtBut a s.heap s'.heap) (e:Ev s.heap s'.heap)
    (hn:c.h₀.get? a=none∧ρ a=none∧a≠env.locals∧∀n,(n,a)∉env.cells) (q:xC c.prog c.w s'.heap a y.2):bJ c env loc (σ.put a y) ρ s':=
  {x.toSat0.put hg ho k e ⟨hn.1,hn.2.1⟩ q with fr:=x.fr.put k e hn.2.2}
theorem bJ.notFrame (x:bJ c env loc σ ρ s) {y:Tg×AO} (h:σ a=some y):a≠env.locals∧∀n,(n,a)∉env.cells:=
  ⟨λ z=>by (rw[z,x.fr.lown.2.1] at h;cases h),λ n m=>by (rw[(x.fr.cown n a m).2.1] at h;cases h)⟩
theorem bJ.upd (x:bJ c env loc σ ρ s) (hg:s'.gens=s.gens) (ho:s'.os=s.os) {y z:Tg×AO} (h:σ a=some y) (k:Heap.ExtBut a s.heap s'.heap) (q:xC c.prog c.w s'.heap a z.2):
    bJ c env loc (σ.put a z) ρ s'∧Ev s.heap s'.heap:=
  have e:=Ev.ofBut (x.obj a y.1 y.2 h) k
  ⟨x.put hg ho k e ⟨(x.own a y h).1,(x.own a y h).2,x.notFrame h⟩ q,e⟩
theorem bJ.lt_frame (x:bJ c env loc σ ρ s) (h:s.heap.objs.size≤a):a≠env.locals∧∀n,(n,a)∉env.cells:=
  ⟨λ z=>absurd (let ⟨_,q,_⟩:=x.fr.locs;(q.lt:env.locals<s.heap.objs.size)) (Nat.not_lt.mpr (z▸h)),
   λ n m=>let ⟨_,q,_⟩:=x.fr.cell n a m;absurd q.lt (Nat.not_lt.mpr h)⟩
theorem bJ.new (x:bJ c env loc σ ρ s) (hg:s'.gens=s.gens) (ho:s'.os=s.os) {y:Tg×AO} (h:s.heap.objs.size≤a) (k:∀b o,s.heap.get? b=some o→s'.heap.get? b=some o) (q:xC c.prog c.w s'.heap a y.2):
    bJ c env loc (σ.put a y) ρ s'∧Ev s.heap s'.heap∧σ a=none:=
  have e:=Ev.keeps k
  have f:=x.toSat0.fresh h
  ⟨x.put hg ho (λ b o _ z=>k b o z) e ⟨f.2.2,f.2.1,x.lt_frame h⟩ q,e,f.1⟩
theorem bJ.more (x:bJ c env loc σ ρ s) (hg:s'.gens=s.gens) (ho:s'.os=s.os) (k:∀b o,s.heap.get? b=some o→s'.heap.get? b=some o):
    bJ c env loc σ ρ s'∧Ev s.heap s'.heap:=
  have e:=Ev.keeps k
  ⟨{x.toSat0.change (λ _=>False) hg ho (λ b o _ z=>k b o z) e (λ _ h=>h.elim) with fr:=x.fr.change (λ _=>False) (λ b o _ z=>k b o z) e (λ _ h=>h.elim)},e⟩
theorem bJ.moreBut (x:bJ c env loc σ ρ s) (hg:s'.gens=s.gens) (ho:s'.os=s.os) (h:s.heap.objs.size≤a) (k:Heap.ExtBut a s.heap s'.heap):
    bJ c env loc σ ρ s'∧Ev s.heap s'.heap:=
  x.more hg ho λ b o z=>k b o (λ q=>absurd (Heap.lt_size z) (Nat.not_lt.mpr (q▸h))) z
theorem bJ.toks (x:bJ c env loc σ ρ s) (t:Nat):bJ c env loc σ ρ {s with toks:=t}:=
  {base:=x.base,keep:=x.keep,obj:=x.obj,own:=x.own,hid:=x.hid,gens:=x.gens,os:=x.os,fr:=x.fr}
theorem aV.put_opt {h:Heap} {l:aV} {m:Str→Option Value} {n y:Str} {av:AV} {v:Value} (hv:bH h av v) (hy:fE h (l y) (m y)):
    fE h (l.put n av y) (if y=n then some v else m y):=by
  unfold aV.put
  by_cases q:y=n
  · rw[if_pos q,if_pos q];exact ⟨v,rfl,hv⟩
  · rw[if_neg q,if_neg q];exact hy
theorem bJ.store (x:bJ c env loc σ ρ s) (hg:s'.gens=s.gens) (ho:s'.os=s.os) {n:Str} {v:Value} {av:AV} {m:Str→Option Value}
    (hm:s.heap.Ns env.locals m) (hq:∀y,env.kindOf y=some .local→fE s.heap (loc y) (m y)) (hv:bH s.heap av v)
    (hc:∀a,(n,a)∉env.cells)
    (hn:s'.heap.Ns env.locals (λ y=>if y=n then some v else m y)) (k:Heap.ExtBut env.locals s.heap s'.heap):
    bJ c env (loc.put n av) σ ρ s'∧Ev s.heap s'.heap:=by
  obtain ⟨o,es,ep,ho',hd,_⟩:=hm
  have e:Ev s.heap s'.heap:=Ev.but ho' (λ _ q=>by subst q;cases hd) k
  refine ⟨{x.toSat0.change (· =env.locals) hg ho (λ b o p q=>k b o p q) e (λ b p=>by subst p;exact x.fr.lown) with fr:=?_},e⟩
  exact {
    kind:=x.fr.kind,glob:=x.fr.glob,bu:=x.fr.bu,lown:=x.fr.lown,cown:=x.fr.cown,capart:=x.fr.capart,above:=x.fr.above
    locs:=⟨_,hn,λ y hy=>aV.put_opt (hv.ev e) ((hq y hy).ev e)⟩
    cell:=λ y b mb=>by
      obtain ⟨u,⟨ob,hob,r⟩,z⟩:=x.fr.cell y b mb
      refine ⟨u,⟨ob,k b ob (x.fr.cown y b mb).2.2.2 hob,r⟩,?_⟩
      unfold aV.put
      rw[if_neg (λ q:y=n=>hc b (q▸mb))]
      exact z.ev e}
theorem bJ.storeCell (x:bJ c env loc σ ρ s) (hg:s'.gens=s.gens) (ho:s'.os=s.os) {n:Str} {v:Value} {av:AV} {b:Addr} (hv:bH s.heap av v)
    (hb:(n,b)∈env.cells) (hl:env.kindOf n≠some .local) (hname:∀b',(n,b')∈env.cells→b'=b)
    (hn:s'.heap.IsCell b (some v)) (k:Heap.ExtBut b s.heap s'.heap):
    bJ c env (loc.put n av) σ ρ s'∧Ev s.heap s'.heap:=by
  obtain ⟨u0,⟨o,ho',hd⟩,_⟩:=x.fr.cell n b hb
  have e:Ev s.heap s'.heap:=Ev.but ho' (λ _ q=>by subst q;cases hd) k
  have own:=x.fr.cown n b hb
  refine ⟨{x.toSat0.change (· =b) hg ho (λ b o p q=>k b o p q) e (λ b p=>by subst p;exact ⟨own.1,own.2.1,own.2.2.1⟩) with fr:=?_},e⟩
  obtain ⟨m,⟨oL,es,ep,hL,r⟩,q⟩:=x.fr.locs
  exact {
    kind:=x.fr.kind,glob:=x.fr.glob,bu:=x.fr.bu,lown:=x.fr.lown,cown:=x.fr.cown,capart:=x.fr.capart,above:=x.fr.above
    locs:=⟨m,⟨oL,es,ep,k _ _ (Ne.symm own.2.2.2) hL,r⟩,λ y hy=>by
      unfold aV.put
      rw[if_neg (λ z:y=n=>hl (z▸hy))]
      exact (q y hy).ev e⟩
    cell:=λ y b' mb=>by
      by_cases hy:y=n
      · subst hy
        obtain rfl:=hname b' mb
        exact ⟨some v,hn,by unfold aV.put;rw[if_pos rfl];exact ⟨v,rfl,hv.ev e⟩⟩
      · obtain ⟨u,⟨ob,hob,r⟩,z⟩:=x.fr.cell y b' mb
        refine ⟨u,⟨ob,k b' ob (λ q=>?_) hob,r⟩,?_⟩
        · subst q;exact hy (name_of_addr x.fr.capart mb hb)
        · unfold aV.put;rw[if_neg hy];exact z.ev e}
end
@[simp] theorem VIs_none {h:Heap} {v:Value}:bH h .none v↔v= .none:=by unfold bH;rfl
@[simp] theorem VIs_bool {h:Heap} {b:Bool} {v:Value}:bH h (.bool b) v↔v= .bool b:=by unfold bH;rfl
@[simp] theorem VIs_int {h:Heap} {i:Int} {v:Value}:bH h (.int i) v↔∃t,v= .int i t:=by unfold bH;rfl
@[simp] theorem VIs_str {h:Heap} {x:Str} {v:Value}:bH h (.str x) v↔∃t,v= .str x t:=by unfold bH;rfl
@[simp] theorem VIs_ref {h:Heap} {a:Addr} {v:Value}:bH h (.ref a) v↔v= .ref a:=by unfold bH;rfl
@[simp] theorem VIs_lit {h:Heap} {u:Value} {v:Value}:bH h (.lit u) v↔v=u:=by unfold bH;rfl
@[simp] theorem VIs_any {h:Heap} {v:Value}:bH h .any v:=by unfold bH;trivial
theorem dN {h:Heap} {l:List AV} {v:Value}:bH h (.tup l) v↔∃a items,v= .ref a∧h.get? a=some (cB items)∧items.size≤100000∧aO h l items.toList:=by rw[bH]
noncomputable abbrev MM (c:Cx):Model:=model c.prog c.w
inductive fH (c:Cx) (env:Env) (loc:aV) (ρ:dC) (h:Heap) {α β:Type} (R:Heap→β→α→Prop) (Φ:β→aF→Prop) (a:α) (s':Shared):Prop
 | mk (b:β) (σ':aF) (hr:R s'.heap b a) (hp:Φ b σ') (q:bJ c env loc σ' ρ s'∧Ev h s'.heap):fH c env loc ρ h R Φ a s'
noncomputable abbrev gD:Value→Shared→Prop:=λ _ _=>False
theorem hK {c:Cx} {env:Env} {loc:aV} {ρ:dC} {h:Heap} {α β:Type} {R:Heap→β→α→Prop} {Φ:β→aF→Prop} {M:Model} {A:Around} {t:Sem α} {Q:α→Shared→Prop} {E:Value→Shared→Prop} {s:Shared} (x:wpAny M A t (fH c env loc ρ h R Φ) gD s) (k:∀v s1 b σ1,R s1.heap b v→Φ b σ1→bJ c env loc σ1 ρ s1→Ev h s1.heap→Q v s1):wpAny M A t Q E s:=
 wpAny_mono x (λ v s1 hp=>hp.casesOn λ b σ1 h1 h2 h3=>k v s1 b σ1 h1 h2 h3.1 h3.2) λ _ _ e=>e.elim
noncomputable def WX (c:Cx) (env:Env) {α β:Type} (R:Heap→β→α→Prop) (loc:aV) (σ:aF) (t:Sem α) (Φ:β→aF→Prop):Prop:=
 ∀ρ s,bJ c env loc σ ρ s→wpAny (MM c) c.A t (fH c env loc ρ s.heap R Φ) gD s
noncomputable abbrev WE (c:Cx) (env:Env) (loc:aV) (σ:aF) (e:Expr) (Φ:AV→aF→Prop):Prop:=WX c env bH loc σ (eval e env) Φ
noncomputable abbrev Wl:Heap→Bool→Bool→Prop:=λ _ b a=>a=b
noncomputable abbrev WB (c:Cx) (env:Env) (loc:aV) (σ:aF) (e:Expr) (Φ:Bool→aF→Prop):Prop:=WX c env Wl loc σ (isTrue e env (eval e env)) Φ
noncomputable abbrev iG (c:Cx) (env:Env) (loc:aV) (σ:aF) (pos:Pos) (args:List Expr) (Φ:List AV→aF→Prop):Prop:=
 WX c env aO loc σ (spliced (backTo pos (starEach args env))) Φ
noncomputable def W1 (c:Cx) (env:Env) {α β:Type} (R:Heap→β→α→Prop) (loc:aV) (σ:aF) (a:AV) (f:Value→Sem α) (Φ:β→aF→Prop):Prop:=
 ∀ρ s va,bJ c env loc σ ρ s→bH s.heap a va→wpAny (MM c) c.A (f va) (fH c env loc ρ s.heap R Φ) gD s
noncomputable def W2 (c:Cx) (env:Env) {α β:Type} (R:Heap→β→α→Prop) (loc:aV) (σ:aF) (a b:AV) (f:Value→Value→Sem α) (Φ:β→aF→Prop):Prop:=
 ∀ρ s va vb,bJ c env loc σ ρ s→bH s.heap a va→bH s.heap b vb→wpAny (MM c) c.A (f va vb) (fH c env loc ρ s.heap R Φ) gD s
noncomputable def WC (c:Cx) (env:Env) (loc:aV) (σ:aF) (f:Value) (as:List AV) (Φ:AV→aF→Prop):Prop:=
 ∀ρ s vs,bJ c env loc σ ρ s→aO s.heap as vs→wpAny (MM c) c.A (call f vs) (fH c env loc ρ s.heap bH Φ) gD s
noncomputable abbrev Wg (c:Cx) (env:Env) (loc:aV) (op:Operator) (Φ:AV→aF→Prop) (a:AV):AV→aF→Prop:=λ b σ2=>W2 c env bH loc σ2 a b (binaryOp op) Φ
noncomputable abbrev CU (c:Cx) (env:Env) (loc:aV) (r:Expr) (op:Operator) (Φ:AV→aF→Prop):AV→aF→Prop:=λ a σ1=>WE c env loc σ1 r (Wg c env loc op Φ a)
noncomputable abbrev CJ (Φ:AV→aF→Prop):List AV→aF→Prop:=λ as σ1=>as.length≤100000∧Φ (.tup as) σ1
noncomputable abbrev CP (t:Tg) (Φ:AV→aF→Prop):List AV→aF→Prop:=λ as σ1=>as.length≤100000∧∀a,σ1 a=none→Φ (.ref a) (σ1.put a (t,.list as))
noncomputable abbrev Wf (Φ:List AV→aF→Prop) (a:AV):List AV→aF→Prop:=λ as σ2=>Φ (a::as) σ2
noncomputable abbrev CW (c:Cx) (env:Env) (loc:aV) (pos:Pos) (rest:List Expr) (Φ:List AV→aF→Prop):AV→aF→Prop:=λ a σ1=>iG c env loc σ1 pos rest (Wf Φ a)
section
variable {c:Cx} {env:Env} {loc:aV} {σ:aF} {α β:Type} {R:Heap→β→α→Prop} {Φ:β→aF→Prop} {ΦV:AV→aF→Prop}
theorem fH.ev {ρ:dC} {h h':Heap} {a:α} {s:Shared} (e:Ev h h') (q:fH c env loc ρ h' R Φ a s):fH c env loc ρ h R Φ a s:=
 let ⟨b,σ',r,p,x,e'⟩:=q;⟨b,σ',r,p,x,e.trans e'⟩
theorem Ds {ρ:dC} {h h':Heap} {M:Model} {A:Around} {t:Sem α} {E:Value→Shared→Prop} {s:Shared} (x:wpAny M A t (fH c env loc ρ h' R Φ) gD s) (e:Ev h h'):wpAny M A t (fH c env loc ρ h R Φ) E s:=
 wpAny_mono x (λ _ _ z=>z.ev e) λ _ _ e=>e.elim
theorem WX.mono {t:Sem α} {Ψ:β→aF→Prop} (h:WX c env R loc σ t Ψ) (k:∀b σ',Ψ b σ'→Φ b σ'):WX c env R loc σ t Φ:=
 λ ρ s x=>wpAny_mono (h ρ s x) (λ _ _ ⟨b,σ',r,p,y⟩=>⟨b,σ',r,k b σ' p,y⟩) λ _ _ e=>e
theorem WX.now {t:Sem α} {b:β} {a:α} (e:t=pure a) (r:∀h,R h b a) (p:Φ b σ):WX c env R loc σ t Φ:=
 λ _ s x=>e▸wpAny_pure ⟨b,σ,r _,p,x,Ev.refl _⟩
theorem aY {i:Int} {k:Nat} {pos:Pos} (h:ΦV (.int i) σ):WE c env loc σ (.Constant (.int i) k pos) ΦV:=
 λ _ s x=>wpAny_Constant_int ⟨.int i,σ,by simp,h,x.toks _,Ev.refl _⟩
theorem fB {y:Str} {k:Nat} {pos:Pos} (h:ΦV (.str y) σ):WE c env loc σ (.Constant (.str y) k pos) ΦV:=
 λ _ s x=>wpAny_Constant_str ⟨.str y,σ,by simp,h,x.toks _,Ev.refl _⟩
theorem eP {k:Nat} {pos:Pos} (h:ΦV .none σ):WE c env loc σ (.Constant .none k pos) ΦV:=
 λ _ s x=>wpAny_Constant_none ⟨.none,σ,by simp,h,x,Ev.refl _⟩
theorem fC {b:Bool} {k:Nat} {pos:Pos} (h:ΦV (.bool b) σ):WE c env loc σ (.Constant (.bool b) k pos) ΦV:=
 λ _ s x=>wpAny_Constant_bool ⟨.bool b,σ,by simp,h,x,Ev.refl _⟩
theorem Az {x:Str} {av:AV} (hv:loc x=some av) (hk:env.kindOf x=some .local) {Φ:AV→aF→Prop} (h:Φ av σ):
  WX c env bH loc σ (loadName env x) Φ:=λ ρ s q=>by
 obtain ⟨m,hm,hq⟩:=q.fr.locs
 have:=hq x hk
 rw[hv] at this
 obtain ⟨u,hu,hv'⟩:=this
 exact wpAny_loadName_local q.fr.kind hk hm hu ⟨av,σ,hv',h,q,Ev.refl _⟩
theorem C9 {x:Str} {av:AV} {a:Addr} (hv:loc x=some av) (hk:env.kindOf x=some .cell∨env.kindOf x=some .free) (ha:env.cells.lookup x=some a)
  (hn:(x==("__classdict__":Str))=false) {Φ:AV→aF→Prop} (h:Φ av σ):WX c env bH loc σ (loadName env x) Φ:=λ ρ s q=>by
 obtain ⟨u,hc,hq⟩:=q.fr.cell x a (mem_of_lookup ha)
 rw[hv] at hq
 obtain ⟨v,rfl,hv'⟩:=hq
 rcases hk with hk | hk
 ·exact wpAny_loadName_cell q.fr.kind hk ha hc ⟨av,σ,hv',h,q,Ev.refl _⟩
 ·exact wpAny_loadName_free q.fr.kind hk ha hc ⟨av,σ,hv',h,q,Ev.refl _⟩ hn
theorem aC {x:Str} {pos:Pos} {av:AV} (hv:loc x=some av) (hk:env.kindOf x=some .local) (h:ΦV av σ)
  (hd:(x==("__debug__":Str))=false:=by decide):WE c env loc σ (.Name x pos) ΦV:=
 λ ρ s q=>wpAny_Name (Az hv hk h ρ s q) hd
theorem cG {x:Str} {pos:Pos} {av:AV} {a:Addr} (hv:loc x=some av) (hk:env.kindOf x=some .cell∨env.kindOf x=some .free) (ha:env.cells.lookup x=some a) (h:ΦV av σ)
  (hd:(x==("__debug__":Str))=false:=by decide) (hn:(x==("__classdict__":Str))=false:=by decide):WE c env loc σ (.Name x pos) ΦV:=
 λ ρ s q=>wpAny_Name (C9 hv hk ha hn h ρ s q) hd
theorem vD {x:Str} {pos:Pos} {v:Value} (e:nsIn (KK c.w) mainGlobals x=some (some v)) (hk:env.kindOf x=some .globalImplicit) (h:ΦV (.lit v) σ)
  (hd:(x==("__debug__":Str))=false:=by decide):WE c env loc σ (.Name x pos) ΦV:=λ ρ s q=>by
 obtain ⟨mg,mb,hg,hb,hu⟩:=q.base.glob
 have kx:=q.base.kx.keeps q.keep
 have hg':=hg.keeps q.keep
 refine Name_function_global q.fr.kind hk (loadGlobal_global (mg:=mg) ?_ (mg_of kx hg' e) ⟨.lit v,σ,by simp,h,q,Ev.refl _⟩) hd
 rw[q.fr.glob];exact hg'
theorem Bn {x:Str} {pos:Pos} {v:Value} (e:nsIn (KK c.w) mainGlobals x=some none) (hv:bootBuiltins x=some v) (hk:env.kindOf x=some .globalImplicit) (h:ΦV (.lit v) σ)
  (hnm:x≠"__name__":=by decide) (hd:(x==("__debug__":Str))=false:=by decide):WE c env loc σ (.Name x pos) ΦV:=λ ρ s q=>by
 obtain ⟨mg,mb,hg,hb,hu⟩:=q.base.glob
 have kx:=q.base.kx.keeps q.keep
 have hg':=hg.keeps q.keep
 have hb':=hb.keeps q.keep
 refine Name_function_global q.fr.kind hk (loadGlobal_builtin (mg:=mg) (mb:=mb) ?_ (mg_none_of kx hg' e) ?_ ((hu x hnm).trans hv) ⟨.lit v,σ,by simp,h,q,Ev.refl _⟩) hd
 ·rw[q.fr.glob];exact hg'
 ·rw[q.fr.bu];exact hb'
theorem aU {l r:Expr} {op:Operator} {pos:Pos} (h:WE c env loc σ l (CU c env loc r op ΦV)):
  WE c env loc σ (.BinOp l op r pos) ΦV:=λ ρ s q=>by
 refine wpAny_BinOp (hK (h ρ s q) (λ va s1 a σ1 ha h₁ q1 e1=>?_))
 refine hK (h₁ ρ s1 q1) (λ vb s2 b σ2 hb h₂ q2 e2=>?_)
 exact Ds (h₂ ρ s2 va vb q2 (ha.ev e2) hb) (e1.trans e2)
theorem Go {x:Expr} {op:UnaryOp} {pos:Pos} (h:WE c env loc σ x λ a σ1=>W1 c env bH loc σ1 a (unaryOp op) ΦV):WE c env loc σ (.UnaryOp op x pos) ΦV:=λ ρ s q=>
 wpAny_UnaryOp (hK (h ρ s q) (λ va s1 a σ1 ha h₁ q1 e1=>Ds (h₁ ρ s1 va q1 ha) e1))
theorem gT {l r:Expr} {op:CmpOp} {pos:Pos} (h:WE c env loc σ l λ a σ1=>WE c env loc σ1 r λ b σ2=>W2 c env bH loc σ2 a b (compareOp op) ΦV)
  (hm:behindInMarks op r=false:=by with_unfolding_all rfl):WE c env loc σ (.Compare l [op] [r] pos) ΦV:=λ ρ s q=>by
 refine wpAny_Compare1 (hK (h ρ s q) (λ va s1 a σ1 ha h₁ q1 e1=>?_)) hm
 refine hK (h₁ ρ s1 q1) (λ vb s2 b σ2 hb h₂ q2 e2=>?_)
 exact Ds (h₂ ρ s2 va vb q2 (ha.ev e2) hb) (e1.trans e2)
theorem iE {test body orelse:Expr} {pos:Pos} (h:WB c env loc σ test λ b σ1=>if b then WE c env loc σ1 body ΦV else WE c env loc σ1 orelse ΦV):
  WE c env loc σ (.IfExp test body orelse pos) ΦV:=λ ρ s q=>by
 refine wpAny_IfExp (hK (h ρ s q) (λ b s1 b' σ1 hb h₁ q1 e1=>?_))
 subst hb
 cases b
 ·exact Ds (h₁ ρ s1 q1) e1
 ·exact Ds (h₁ ρ s1 q1) e1
theorem aZ {elts:List Expr} {k:Nat} {pos:Pos} (h:iG c env loc σ pos elts (CJ ΦV)):WE c env loc σ (.Tuple elts k pos) ΦV:=λ ρ s q=>by
 refine wpAny_Tuple (hK (h ρ s q) (λ vs s1 as σ1 hv hz3 q1 e1=>?_))
 obtain ⟨hz,h₁⟩:=hz3
 refine ⟨by rw[hv.length,sizeLine_eq];exact Ht hz,.tup as,σ1,?_,h₁,?_⟩
 ·have e:Ev s1.heap (s1.heap.push (cB vs.toArray)):=Ev.keeps λ _ _ z=>Heap.get?_push_of_some _ z
  exact dN.mpr ⟨_,vs.toArray,rfl,Heap.get?_push_size _ rfl,by simp[hv.length,hz],by simpa using hv.ev e⟩
 ·have:=q1.more (s':={s1 with heap:=s1.heap.push {cls:=.type "tuple",data:=.seq vs.toArray} }) rfl rfl λ _ _ z=>Heap.get?_push_of_some _ z
  exact ⟨this.1,e1.trans this.2⟩
theorem bV {elts:List Expr} {pos:Pos} (t:Tg) (h:iG c env loc σ pos elts (CP t ΦV)):
  WE c env loc σ (.List elts pos) ΦV:=λ ρ s q=>by
 refine wpAny_List (hK (h ρ s q) (λ vs s1 as σ1 hv hz3 q1 e1=>?_))
 obtain ⟨hz,h₁⟩:=hz3
 have:=q1.new (s':={s1 with heap:=s1.heap.push {cls:=.type "list",data:=.seq vs.toArray} }) (a:=s1.heap.objs.size) (y:=(t,.list as)) rfl rfl (Nat.le_refl _) (λ _ _ z=>Heap.get?_push_of_some _ z)
  ⟨vs.toArray,0,Heap.get?_push_size _ rfl,by simpa using hv.ev (Ev.keeps λ _ _ z=>Heap.get?_push_of_some _ z)⟩
 exact ⟨by rw[hv.length,sizeLine_eq];exact Ht hz,.ref _,_,by simp,h₁ _ this.2.2,this.1,e1.trans this.2.1⟩
theorem aB {pos:Pos} {Φ:List AV→aF→Prop} (h:Φ [] σ):iG c env loc σ pos [] Φ:=λ ρ s q=>wpAny_items_nil ⟨[],σ,.nil,h,q,Ev.refl _⟩
theorem aA {pos:Pos} {e:Expr} {rest:List Expr} {Φ:List AV→aF→Prop} (h:WE c env loc σ e (CW c env loc pos rest Φ))
  (he:starEach (e::rest) env=(false,eval e env)::starEach rest env:=by rfl):iG c env loc σ pos (e::rest) Φ:=λ ρ s q=>by
 refine wpAny_items_cons (hK (h ρ s q) (λ va s1 a σ1 ha h₁ q1 e1=>?_)) he
 refine hK (h₁ ρ s1 q1) (λ vs s2 as σ2 hs h₂ q2 e2=>?_)
 exact ⟨a::as,σ2,.cons (ha.ev e2) hs,h₂,q2,e1.trans e2⟩
end
noncomputable def fJ (h₀ h:Heap) (L:Addr) (D:List Addr):List (Addr×Obj):=
 (List.range h.objs.size).filterMap λ a=>if a=L∨a∈D∨(h₀.get? a).isSome then none else (h.get? a).map (a, ·)
theorem dF {h₀ h:Heap} {L:Addr} {D:List Addr} {a:Addr} {o:Obj}:(a,o)∈fJ h₀ h L D↔a≠L∧a∉D∧h₀.get? a=none∧h.get? a=some o:=by
 unfold fJ
 rw[List.mem_filterMap]
 constructor
 ·rintro ⟨b,_,hb⟩
  by_cases q:b=L∨b∈D∨(h₀.get? b).isSome
  ·rw[if_pos q] at hb;cases hb
  ·rw[if_neg q] at hb
   obtain ⟨o',ho',e⟩:=Option.map_eq_some_iff.mp hb
   cases e
   exact ⟨λ z=>q (.inl z),λ z=>q (.inr (.inl z)),(by
    cases z:h₀.get? a with
    | none=>rfl
    | some _=>exact absurd (.inr (.inr (by rw[z];rfl))) q),ho'⟩
 ·rintro ⟨h1,h2,h3,h4⟩
  refine ⟨a,List.mem_range.mpr (Heap.lt_size h4),?_⟩
  rw[if_neg (by rintro (z | z | z);exact h1 z;exact h2 z;rw[h3] at z;cases z),h4];rfl
theorem eV {h₀ h:Heap} {L:Addr} {D:List Addr}:News h₀ L h (fJ h₀ h L D):=λ p hp=>by
 obtain ⟨h1,h2,h3,h4⟩:=dF.mp (show (p.1,p.2)∈_ from hp)
 exact ⟨h4,h1,h3⟩
noncomputable def qJ (h:Heap) (L:Nat):Heap:=⟨h.objs.extract 0 L,h.life⟩
theorem qI (h:Heap) (L:Nat):(qJ h L).objs.size≤L:=by simp[qJ];exact Rt
theorem Cu {h:Heap} {L:Nat} {b:Nat} (hb:b<L):(qJ h L).get? b=h.get? b:=by
 unfold qJ Heap.get?
 have:(h.objs.extract 0 L)[b]? =h.objs[b]?:=by
  rw[Array.getElem?_extract]
  by_cases q:b<h.objs.size
  ·rw[if_pos (by exact Qj hb q)];simp
  ·rw[if_neg (by exact O6 q),Array.getElem?_eq_none (by exact Ff q)]
 rw[this]
theorem Aj {h:Heap} {L:Nat} {b:Nat} (hb:¬b<L):(qJ h L).get? b=none:=by
 cases z:(qJ h L).get? b with
 | none=>rfl
 | some o=>exact absurd (Nat.lt_of_lt_of_le (Heap.lt_size z) (qI h L)) hb
noncomputable def Cx.low (c:Cx) (env:Env):Heap:=qJ c.h₀ env.locals
section
variable {c:Cx} {env:Env} {loc:aV} {σ:aF} {ρ:dC} {s s':Shared}
theorem bJ.low (x:bJ c env loc σ ρ s) (b:Addr):(c.low env).get? b=c.h₀.get? b:=by
 unfold Cx.low
 by_cases q:b<env.locals
 ·exact Cu q
 ·rw[Aj q]
  cases z:c.h₀.get? b with
  | none=>rfl
  | some o=>exact absurd (x.fr.above b o z) q
theorem bJ.kx (x:bJ c env loc σ ρ s):(KK c.w).In (c.low env):=λ a o e=>(x.low a).trans (x.base.kx a o e)
theorem bJ.frame (x:bJ c env loc σ ρ s):∃m,Fr (c.low env) env.locals s.heap m∧∀y,env.kindOf y=some .local→fE s.heap (loc y) (m y):=
 let ⟨m,hm,hq⟩:=x.fr.locs;⟨m,⟨hm,λ b o e=>x.keep b o ((x.low b).symm.trans e),qI _ _⟩,hq⟩
theorem bJ.keep' (x:bJ c env loc σ ρ s):∀b o,(c.low env).get? b=some o→s.heap.get? b=some o:=λ b o e=>x.keep b o ((x.low b).symm.trans e)
theorem mL {h₀ h h':Heap} {L:Addr} {D:List Addr} {m:Str→Option Value} {news:List (Addr×Obj)} (F:Fr h₀ L h' m) (N:News h₀ L h' news) (hs:∀p∈fJ h₀ h L D,p∈news)
  (keep:∀b o,h₀.get? b=some o→h.get? b=some o) (b:Addr) (o:Obj) (hb:b≠L) (hd:b∉D) (e:h.get? b=some o):h'.get? b=some o:=by
 cases z:h₀.get? b with
 | some o'=>
  have:=keep b o' z
  rw[e] at this;cases this
  exact F.keep b _ z
 | none=>exact (N _ (hs _ (dF.mpr ⟨hb,hd,z,e⟩))).1
theorem bJ.viaNews (x:bJ c env loc σ ρ s) (hg:s'.gens=s.gens) (ho:s'.os=s.os) {m:Str→Option Value} {news:List (Addr×Obj)}
  (F:Fr (c.low env) env.locals s.heap m) (hq:∀y,env.kindOf y=some .local→fE s.heap (loc y) (m y))
  (F':Fr (c.low env) env.locals s'.heap m) (N':News (c.low env) env.locals s'.heap news) (hs:∀p∈fJ (c.low env) s.heap env.locals [],p∈news):
  bJ c env loc σ ρ s'∧Ev s.heap s'.heap∧∀b o,b≠env.locals→s.heap.get? b=some o→s'.heap.get? b=some o:=by
 have k:∀b o,b≠env.locals→s.heap.get? b=some o→s'.heap.get? b=some o:=λ b o hb e=>mL F' N' hs x.keep' b o hb (by simp) e
 obtain ⟨oL,es,ep,hL,hd,_⟩:=F.ns
 have e:Ev s.heap s'.heap:=Ev.but hL (λ _ z=>by subst z;cases hd) λ b o hb z=>k b o hb z
 refine ⟨{x.toSat0.change (· =env.locals) hg ho (λ b o p q=>k b o p q) e (λ b p=>by subst p;exact x.fr.lown) with fr:=?_},e,k⟩
 exact {
  kind:=x.fr.kind,glob:=x.fr.glob,bu:=x.fr.bu,lown:=x.fr.lown,cown:=x.fr.cown,capart:=x.fr.capart,above:=x.fr.above
  locs:=⟨m,F'.ns,λ y hy=>(hq y hy).ev e⟩
  cell:=λ n b mb=>let ⟨u,⟨ob,hob,r⟩,z⟩:=x.fr.cell n b mb;⟨u,⟨ob,k b ob (x.fr.cown n b mb).2.2.2 hob,r⟩,z.ev e⟩}
theorem bJ.viaUpd (x:bJ c env loc σ ρ s) (hg:s'.gens=s.gens) (ho:s'.os=s.os) {m:Str→Option Value} {news:List (Addr×Obj)} {d:Addr} {y z:Tg×AO}
  (F:Fr (c.low env) env.locals s.heap m) (hq:∀y,env.kindOf y=some .local→fE s.heap (loc y) (m y)) (hd:σ d=some y)
  (F':Fr (c.low env) env.locals s'.heap m) (N':News (c.low env) env.locals s'.heap news) (hs:∀p∈fJ (c.low env) s.heap env.locals [d],p∈news)
  (q:Ev s.heap s'.heap→xC c.prog c.w s'.heap d z.2):bJ c env loc (σ.put d z) ρ s'∧Ev s.heap s'.heap:=by
 have k:∀b o,b≠env.locals→b≠d→s.heap.get? b=some o→s'.heap.get? b=some o:=λ b o hb hbd e=>mL F' N' hs x.keep' b o hb (by simpa using hbd) e
 obtain ⟨oL,es,ep,hL,hdL,_⟩:=F.ns
 obtain ⟨od,hod,hnt⟩:=(x.obj d y.1 y.2 hd).obj
 have nf:=x.notFrame hd
 have own:=x.own d y hd
 have e:Ev s.heap s'.heap:=λ b items z=>by
  by_cases h1:b=env.locals
  ·subst h1;rw[hL] at z;cases z;cases hdL
  ·by_cases h2:b=d
   ·subst h2;rw[hod] at z;cases z;exact absurd rfl (hnt items)
   ·exact k b _ h1 h2 z
 have nz:∀b x',σ b=some x'→b≠env.locals:=λ b x' hb z=>by (rw[z,x.fr.lown.2.1] at hb;cases hb)
 refine ⟨{base:=x.base,gens:=hg.trans x.gens,os:=ho.trans x.os,keep:=λ b o e=>F'.keep b o ((x.low b).trans e),obj:=?_,own:=?_,hid:=?_,fr:=?_},e⟩
 ·intro b t ao hb
  by_cases h2:b=d
  ·subst h2;rw[aF.put_same] at hb;cases hb;exact q e
  ·rw[aF.put_ne σ z h2] at hb
   exact (x.obj b t ao hb).mono e λ o=>k b o (nz b _ hb) h2
 ·intro b x' hb
  by_cases h2:b=d
  ·subst h2;exact own
  ·rw[aF.put_ne σ z h2] at hb;exact x.own b x' hb
 ·intro b o hb
  exact k b o (λ w=>by (rw[w,x.fr.lown.2.2] at hb;cases hb)) (λ w=>by (rw[w,own.2] at hb;cases hb)) (x.hid b o hb)
 ·exact {
   kind:=x.fr.kind,glob:=x.fr.glob,bu:=x.fr.bu,capart:=x.fr.capart,above:=x.fr.above
   lown:=⟨x.fr.lown.1,by rw[aF.put_ne σ z (Ne.symm nf.1)];exact x.fr.lown.2.1,x.fr.lown.2.2⟩
   cown:=λ n b mb=>⟨(x.fr.cown n b mb).1,by rw[aF.put_ne σ z (λ w=>by subst w;exact nf.2 n mb)];exact (x.fr.cown n b mb).2.1,(x.fr.cown n b mb).2.2⟩
   locs:=⟨m,F'.ns,λ y hy=>(hq y hy).ev e⟩
   cell:=λ n b mb=>let ⟨u,⟨ob,hob,r⟩,z⟩:=x.fr.cell n b mb;⟨u,⟨ob,k b ob (x.fr.cown n b mb).2.2.2 (λ w=>by subst w;exact nf.2 n mb) hob,r⟩,z.ev e⟩}
end
section
variable {c:Cx} {env:Env} {loc:aV} {σ:aF} {ΦB:Bool→aF→Prop} {ΦV:AV→aF→Prop}
theorem gB {e:Expr} (h:WE c env loc σ e λ a σ1=>W1 c env Wl loc σ1 a truthy ΦB)
  (he:∀whole,isTrue e env whole=(do let v ←whole;standAt e.pos;holding [v] (truthy v)):=by intro _;rfl):WB c env loc σ e ΦB:=λ ρ s q=>
 wpAny_isTrue_value (hK (h ρ s q) (λ v s1 a σ1 ha h₁ q1 e1=>Ds (h₁ ρ s1 v q1 ha) e1)) (he _)
theorem fS {b:Bool} (h:ΦB b σ):W1 c env Wl loc σ (.bool b) truthy ΦB:=λ ρ s v q hv=>by
 rw[VIs_bool] at hv;subst hv
 exact wpAny_truthy_bool ⟨b,σ,rfl,h,q,Ev.refl _⟩
theorem sY {x:Expr} {pos:Pos} (h:WB c env loc σ x λ b σ1=>ΦB (!b) σ1):WB c env loc σ (.UnaryOp .Not x pos) ΦB:=λ ρ s q=>
 wpAny_isTrue_Not (wpAny_mono (h ρ s q) (λ b s1 ⟨b',σ1,hb,h₁,q1⟩=>⟨!b',σ1,by rw[hb],h₁,q1⟩) λ _ _ e=>e)
theorem aT {l r:Expr} {op:CmpOp} {pos:Pos} (h:WE c env loc σ l λ a σ1=>WE c env loc σ1 r λ b σ2=>W2 c env bH loc σ2 a b (compareOp op) λ v σ3=>∃b,v= .bool b∧ΦB b σ3)
  (hm:behindInMarks op r=false:=by with_unfolding_all rfl):WB c env loc σ (.Compare l [op] [r] pos) ΦB:=λ ρ s q=>by
 refine wpAny_isTrue_Compare1 (hK (h ρ s q) (λ va s1 a σ1 ha h₁ q1 e1=>?_)) hm
 refine hK (h₁ ρ s1 q1) (λ vb s2 b σ2 hb h₂ q2 e2=>?_)
 refine hK (h₂ ρ s2 va vb q2 (ha.ev e2) hb) (λ v s3 d σ3 hd hz3 q3 e3=>?_)
 obtain ⟨b',eb,h₃⟩:=hz3
 subst eb;rw[VIs_bool] at hd;subst hd
 exact wpAny_truthy_bool ⟨b',σ3,rfl,h₃,q3,e1.trans (e2.trans e3)⟩
theorem zR {l m r:Expr} {o1 o2:CmpOp} {pos:Pos}
  (h:WE c env loc σ l λ a σ1=>WE c env loc σ1 m λ b σ2=>W2 c env bH loc σ2 a b (compareOp o1) λ v σ3=>∃k,v= .bool k∧
   (if k then WE c env loc σ3 r λ d σ4=>W2 c env bH loc σ4 b d (compareOp o2) λ v σ5=>∃j,v= .bool j∧ΦB j σ5 else ΦB false σ3))
  (hm:∀t t',markedEach [o1,o2] [m,r] [t,t']=[t,t']:=by intro _ _;with_unfolding_all rfl):WB c env loc σ (.Compare l [o1,o2] [m,r] pos) ΦB:=λ ρ s q=>by
 show wpAny _ _ (eval l env>>=λ a=>testChain pos a [o1,o2] (markedEach [o1,o2] [m,r] [eval m env,eval r env])) _ _ _
 rw[hm]
 refine wpAny_bind (hK (h ρ s q) (λ va s1 a σ1 ha h₁ q1 e1=>?_))
 show wpAny _ _ (holding [va] (eval m env)>>=λ rv=>standAt pos>>=λ _=>holding [va,rv] (compareOp o1 va rv)>>=λ k=>release [va,rv] [k]>>=λ _=>holding [k,rv] (truthy k)>>=λ t=>
  if t=true then testChain pos rv [o2] [eval r env] else pure false) _ _ _
 refine wpAny_bind (wpAny_holding (hK (h₁ ρ s1 q1) (λ vb s2 b σ2 hb h₂ q2 e2=>?_)))
 refine wpAny_bind (wpAny_standAt (wpAny_bind (wpAny_holding (hK (h₂ ρ s2 va vb q2 (ha.ev e2) hb) (λ v s3 d σ3 hd hz3 q3 e3=>?_)))))
 obtain ⟨k,eb,h₃⟩:=hz3
 subst eb;rw[VIs_bool] at hd;subst hd
 refine wpAny_bind (wpAny_release (wpAny_bind (wpAny_holding (wpAny_truthy_bool ?_))))
 cases k with
 | false=>exact wpAny_pure ⟨false,σ3,rfl,h₃,q3,e1.trans (e2.trans e3)⟩
 | true=>
  simp only[if_true] at h₃⊢
  show wpAny _ _ (holding [vb] (eval r env)>>=λ rv=>standAt pos>>=λ _=>operate [vb,rv] (compareOp o2 vb rv)>>=λ k=>holding [k] (truthy k)) _ _ _
  refine wpAny_bind (wpAny_holding (hK (h₃ ρ s3 q3) (λ vd s4 d σ4 hd h₄ q4 e4=>?_)))
  refine wpAny_bind (wpAny_standAt (wpAny_bind (wpAny_operateT (hK (h₄ ρ s4 vb vd q4 (hb.ev (e3.trans e4)) hd) (λ v s5 d σ5 hd hz3 q5 e5=>?_)))))
  obtain ⟨j,eb,h5⟩:=hz3
  subst eb;rw[VIs_bool] at hd;subst hd
  exact wpAny_holding (wpAny_truthy_bool ⟨j,σ5,rfl,h5,q5,e1.trans (e2.trans (e3.trans (e4.trans e5)))⟩)
noncomputable def Lm (c:Cx) (env:Env) (loc:aV) (op:BoolOp) (ΦB:Bool→aF→Prop):List Expr→aF→Prop
 | [],σ=>ΦB (op== .And) σ
 | x::r,σ=>WB c env loc σ x λ b σ1=>if b=(op== .And) then Lm c env loc op ΦB r σ1 else ΦB b σ1
theorem Le {op:BoolOp}:∀{es:List Expr} {σ:aF},Lm c env loc op ΦB es σ→WX c env Wl loc σ (allTrue op es env) ΦB
 | [],σ,h=>WX.now rfl (λ _=>rfl) h
 | x::r,σ,h=>λ ρ s q=>by
  cases op with
  | And=>
   refine wpAny_allTrue_And_cons (hK (h ρ s q) (λ b s1 b' σ1 hb h₁ q1 e1=>?_))
   subst hb
   cases b with
   | true=>exact Ds (Le h₁ ρ s1 q1) e1
   | false=>exact ⟨false,σ1,rfl,h₁,q1,e1⟩
  | Or=>
   refine wpAny_allTrue_Or_cons (hK (h ρ s q) (λ b s1 b' σ1 hb h₁ q1 e1=>?_))
   subst hb
   cases b with
   | false=>exact Ds (Le h₁ ρ s1 q1) e1
   | true=>exact ⟨true,σ1,rfl,h₁,q1,e1⟩
theorem kF {op:BoolOp} {es:List Expr} {pos:Pos} (h:Lm c env loc op ΦB es σ):WB c env loc σ (.BoolOp op es pos) ΦB:=λ ρ s q=>wpAny_isTrue_BoolOp (Le h ρ s q)
theorem Ih {x y:Expr} {pos:Pos} (h:WE c env loc σ x λ a σ1=>∃b,a= .bool b∧if b then WE c env loc σ1 y ΦV else ΦV a σ1):WE c env loc σ (.BoolOp .And [x,y] pos) ΦV:=λ ρ s q=>by
 refine wpAny_And2 (hK (h ρ s q) (λ v s1 a σ1 ha hz3 q1 e1=>?_))
 obtain ⟨b,eb,h₁⟩:=hz3
 subst eb;rw[VIs_bool] at ha;subst ha
 refine wpAny_truthy_bool ?_
 cases b with
 | true=>exact Ds (h₁ ρ s1 q1) e1
 | false=>exact ⟨.bool false,σ1,by simp,h₁,q1,e1⟩
end
noncomputable def Bp (c:Cx) (v:Value):Prop:=∀h,(KK c.w).In h→∃k,(k=Keeper.frame∨k=Keeper.machine∨k=Keeper.boundFrame)∧Looks (MM c) h (keeperOf v) k
theorem A3 {c:Cx} {v:Value} (hk:keepIn (KK c.w) v=true):Bp c v:=λ h X=>keeps_K hk h X
theorem aK {c:Cx} {id:String}:Bp c (.builtin id):=λ _ _=>⟨.machine,.inr (.inl rfl),Looks.of_pure rfl⟩
theorem bN {c:Cx} {T:String}:Bp c (.type T):=λ _ _=>⟨.machine,.inr (.inl rfl),Looks.of_pure rfl⟩
theorem rU {M:Model} {A:Around} {E:Value→Shared→Prop} {s:Shared} {f:Value} {Q:Args→Shared→Prop}:∀{trees:List (Bool×Sem Value)},trees.any (·.1)=false→
  wpAny M A (spliced trees) (λ vs s'=>Q ⟨vs,[]⟩ s') E s→wpAny M A (evalArgs f true trees []) Q E s
 | [],_,h=>by
  unfold evalArgs
  show wpAny M A (spliced []>>=_) Q E s
  refine wpAny_bind (wpAny_mono h (λ vs s' h'=>?_) λ _ _ x=>x)
  refine wpAny_holding ?_
  exact wpAny_bind (wpAny_pure (wpAny_bind (wpAny_pure (wpAny_pure h'))))
 | (false,x)::rest,_,h=>evalArgs_plain h
 | (true,x)::rest,hp,_=>by simp at hp
section
variable {c:Cx} {env:Env} {loc:aV} {σ:aF} {Φ:AV→aF→Prop}
theorem sJ {pos pos':Pos} {fv:Value} {first:List AV} {args:List Expr} {ρ:dC} {s:Shared} {vs:List Value} (hk:Bp c fv)
  (hp:(backTo pos (starEach args env)).any (·.1)=false) (q:bJ c env loc σ ρ s) (hf:aO s.heap first vs)
  (h:iG c env loc σ pos args λ as σ1=>WC c env loc σ1 fv (first++as) Φ):
  wpAny (MM c) c.A (callWith pos' fv vs (backTo pos (starEach args env)) []) (fH c env loc ρ s.heap bH Φ) gD s:=by
 refine callWith_of (P:=λ h=>(KK c.w).In h) (by rw[hp];rfl) hk (rU hp ?_)
 refine hK (h ρ s q) (λ us s1 as σ1 ha h₁ q1 e₁=>?_)
 exact ⟨q1.base.kx.keeps q1.keep,Ds (h₁ ρ s1 (vs++us) q1 ((hf.ev e₁).append ha)) e₁⟩
theorem wX {f:Expr} {args:List Expr} {pos:Pos}
  (h:WE c env loc σ f λ a σ1=>∃fv,a= .lit fv∧Bp c fv∧iG c env loc σ1 pos args λ as σ2=>WC c env loc σ2 fv as Φ)
  (hform:eval (.Call f args [] pos) env=(do callWith pos (←eval f env) [] (backTo pos (starEach args env)) []):=by rfl)
  (hp:(backTo pos (starEach args env)).any (·.1)=false:=by rfl):WE c env loc σ (.Call f args [] pos) Φ:=λ ρ s q=>by
 rw[hform]
 refine wpAny_bind (hK (h ρ s q) (λ v s1 a σ1 ha hz3 q1 e₁=>?_))
 obtain ⟨fv,ea,hk,h₁⟩:=hz3
 subst ea;rw[VIs_lit] at ha;subst ha
 exact Ds (sJ (first:=[]) hk hp q1 .nil h₁) e₁
noncomputable def fP (c:Cx) (σ:aF) (av:AV) (name:Str) (fv:Value):Prop:=
 ∀env loc ρ s v pl (Q:Value×List Value→Shared→Prop),bJ c env loc σ ρ s→bH s.heap av v→Q (fv,[v]) s→wpAny (MM c) c.A (getMethod v name pl) Q gD s
theorem wV {o:Expr} {name:Str} {apos pos:Pos} {args:List Expr}
  (h:WE c env loc σ o λ a σ1=>∃fv,fP c σ1 a name fv∧Bp c fv∧iG c env loc σ1 pos args λ as σ2=>WC c env loc σ2 fv (a::as) Φ)
  (hbase:attributeBase o name env (eval o env)=eval o env:=by with_unfolding_all rfl)
  (hfew:methodCallForm args.length (backTo pos (starEach args env)) []=true:=by rfl)
  (hline:(apos.endLine==pos.line)=true:=by rfl)
  (hp:(backTo pos (starEach args env)).any (·.1)=false:=by rfl):WE c env loc σ (.Call (.Attribute o name apos) args [] pos) Φ:=λ ρ s q=>by
 rw[arm_eval_Call,hbase]
 refine wpAny_bind (hK (h ρ s q) (λ v s1 a σ1 ha hz3 q1 e₁=>?_))
 obtain ⟨fv,hm,hk,h₁⟩:=hz3
 refine wpAny_bind (wpAny_standAt ?_)
 have hpos:methodCallPos true o env apos pos=pure pos:=by unfold methodCallPos;simp[hline]
 unfold methodCall
 show wpAny _ _ (holding [v] (calleeOf (methodCallForm args.length (backTo pos (starEach args env)) []) o env v name)>>=_) _ _ _
 rw[hfew]
 refine wpAny_bind (wpAny_holding (hm env loc ρ s1 v _ _ q1 ha ?_))
 refine wpAny_bind ?_
 show wpAny _ _ (methodCallPos (methodCallForm args.length (backTo pos (starEach args env)) []) o env apos pos) _ _ _
 rw[hfew,hpos]
 exact wpAny_pure (Ds (sJ (first:=[a]) hk hp q1 (.cons ha .nil) h₁) e₁)
theorem uW {x:Str} {e:DictEntry} {er:List DictEntry} (h:e.key.isStr x=false) (hr:e.refKey=false):getL x (e::er)=getL x er:=by
 have e1:(e::er).any (·.refKey)=er.any (·.refKey):=by rw[List.any_cons,hr,Bool.false_or]
 have e2:(e::er).find? (·.key.isStr x)=er.find? (·.key.isStr x):=by rw[List.find?_cons,h]
 unfold getL
 simp only[e1,e2]
theorem bO.get_some {h:Heap} {x:Str} {av:AV}:∀{m:List (Str×AV)} {es:List DictEntry},bO h m es→m.lookup x=some av→∃v,getL x es=some (some v)∧bH h av v
 | (y,a)::r,_,⟨e,er,t,rfl,h2,h3,h4⟩,hl=>by
  rw[List.lookup_cons] at hl
  by_cases q:x=y
  ·subst q
   simp only[beq_self_eq_true] at hl
   cases hl
   refine ⟨e.val,?_,h3⟩
   have q':e.key.isStr x=true:=by rw[h2];simp[Value.isStr]
   unfold getL
   simp only[List.find?_cons,q']
  ·have:(x==y)=false:=by simpa using q
   rw[this] at hl
   obtain ⟨v,hv,hv'⟩:=bO.get_some h4 hl
   refine ⟨v,?_,hv'⟩
   rw[uW (by rw[h2];simp[Value.isStr];exact λ z=>q z.symm) (by unfold DictEntry.refKey;rw[h2])]
   exact hv
theorem bO.get_none {h:Heap} {x:Str}:∀{m:List (Str×AV)} {es:List DictEntry},bO h m es→m.lookup x=none→getL x es=some none
 | [],es,q,_=>by cases q;rfl
 | (y,a)::r,_,⟨e,er,t,rfl,h2,h3,h4⟩,hl=>by
  rw[List.lookup_cons] at hl
  by_cases q:x=y
  ·subst q;simp at hl
  ·have:(x==y)=false:=by simpa using q
   rw[this] at hl
   rw[uW (by rw[h2];simp[Value.isStr];exact λ z=>q z.symm) (by unfold DictEntry.refKey;rw[h2])]
   exact bO.get_none h4 hl
theorem bJ.inst {ρ:dC} {s:Shared} (q:bJ c env loc σ ρ s) {x C d:Addr} {t t':Tg} {m:List (Str×AV)} (hx:σ x=some (t,.inst C d)) (hd:σ d=some (t',.ns m)):
  ∃es n,InstAt s.heap x (instObj C d) C (some (dictOf es n))∧bO s.heap m es:=
 let ⟨es,n,h1,h2⟩:=q.obj d _ _ hd
 ⟨es,n,⟨q.obj x _ _ hx,rfl,rfl,h1⟩,h2⟩
theorem C6 {x C d f:Addr} {t t':Tg} {m:List (Str×AV)} {name:Str} (hx:σ x=some (t,.inst C d)) (hd:σ d=some (t',.ns m)) (hl:m.lookup name=none)
  (hg:plainGet (KK c.w) C name=true) (hf:findIn (KK c.w) (.ref C) name=some (some (.ref f))) (ht:isFn (KK c.w) (.ref f)=true):fP c σ (.ref x) name (.ref f):=
 λ env loc ρ s v pl Q q hv h=>by
  rw[VIs_ref] at hv;subst hv
  obtain ⟨m',F,_⟩:=q.frame
  obtain ⟨es,n,I,hat⟩:=q.inst hx hd
  exact method_inst F q.kx I hg hf ht (hat.get_none hl) h
theorem Ig {o:Expr} {name:Str} {pos:Pos}
  (h:WE c env loc σ o λ a σ1=>∃x C d t t' m v,a= .ref x∧σ1 x=some (t,.inst C d)∧σ1 d=some (t',.ns m)∧m.lookup name=some v∧
   plainGet (KK c.w) C name=true∧hasDictIn (KK c.w) C=true∧findIn (KK c.w) (.ref C) name=some none∧(∀h u,bH h v u→handedIn u=true)∧Φ v σ1)
  (hbase:attributeBase o name env (eval o env)=eval o env:=by with_unfolding_all rfl):WE c env loc σ (.Attribute o name pos) Φ:=λ ρ s q=>by
 rw[arm_eval_Attribute,hbase]
 refine wpAny_bind (hK (h ρ s q) (λ va s1 a σ1 ha hz3 q1 e₁=>?_))
 obtain ⟨x,C,d,t,t',m,v,ea,hx,hd,hl,hg,hh,hfi,hi,h₁⟩:=hz3
 subst ea;rw[VIs_ref] at ha;subst ha
 obtain ⟨m',F,_⟩:=q1.frame
 obtain ⟨es,n,I,hat⟩:=q1.inst hx hd
 obtain ⟨u,hu,hu'⟩:=hat.get_some hl
 refine wpAny_bind (wpAny_standAt (wpAny_bind (wpAny_holding (get_own F q1.kx I hg hh hfi rfl hu (hi _ u hu') ?_))))
 exact wpAny_bind (wpAny_letTemporaryGo (wpAny_pure ⟨v,σ1,hu',h₁,q1.toks _,e₁⟩))
noncomputable def vS:List (Str×AV)→Str→AV→List (Str×AV)
 | [],x,v=>[(x,v)]
 | (y,a)::r,x,v=>if y=x then (y,v)::r else (y,a)::vS r x v
theorem bO.put {h:Heap} {x:Str} {av:AV} {v:Value} {hsh:Int} {t:Tok} (hv:bH h av v):∀{m:List (Str×AV)} {es:List DictEntry},bO h m es→bO h (vS m x av) (putL x hsh (.str x t) v es)
 | [],es,q=>by cases q;exact ⟨_,[],t,rfl,rfl,hv,rfl⟩
 | (y,a)::r,_,⟨e,er,t',rfl,h2,h3,h4⟩=>by
  unfold vS putL
  by_cases q:y=x
  ·subst q
   have q':(e.key).isStr y=true:=by rw[h2];simp[Value.isStr]
   rw[if_pos rfl,if_pos q']
   exact ⟨_,er,t',rfl,h2,hv,h4⟩
  ·have q':(e.key).isStr x=false:=by rw[h2];simp[Value.isStr];exact q
   rw[if_neg q,if_neg (by rw[q'];simp)]
   exact ⟨e,_,t',rfl,h2,h3,bO.put hv h4⟩
theorem bO.length {h:Heap}:∀{m:List (Str×AV)} {es:List DictEntry},bO h m es→es.length=m.length
 | [],es,q=>by cases q;rfl
 | (y,a)::r,_,⟨e,er,t',rfl,h2,h3,h4⟩=>by simp[bO.length h4]
theorem oR (x:Str) (av:AV):∀m:List (Str×AV),(vS m x av).length≤m.length+1
 | []=>by simp[vS]
 | (y,a)::r=>by
  have:=oR x av r
  unfold vS
  split<;>simp<;>exact Sm this
end
inductive AF where
 | next | brk | cont | ret (v:AV)
noncomputable def Kh (h:Heap):AF→Flow→Prop
 | .next,f=>f= .next
 | .brk,f=>f= .brk
 | .cont,f=>f= .cont
 | .ret av,f=>∃v,f= .ret v∧bH h av v
inductive cY (c:Cx) (env:Env) (ρ:dC) (h:Heap) {α β:Type} (R:Heap→β→α→Prop) (Φ:β→aV→aF→Prop) (a:α) (s':Shared):Prop
 | mk (b:β) (loc':aV) (σ':aF) (hr:R s'.heap b a) (hp:Φ b loc' σ') (q:bJ c env loc' σ' ρ s'∧Ev h s'.heap):cY c env ρ h R Φ a s'
noncomputable def WS (c:Cx) (env:Env) (loc:aV) (σ:aF) (t:Sem Flow) (Φ:AF→aV→aF→Prop):Prop:=
 ∀ρ s,bJ c env loc σ ρ s→wpAny (MM c) c.A t (cY c env ρ s.heap Kh Φ) gD s
noncomputable def WA (c:Cx) (env:Env) (loc:aV) (σ:aF) (tgt:Expr) (av:AV) (Φ:aV→aF→Prop):Prop:=
 ∀ρ s v,bJ c env loc σ ρ s→bH s.heap av v→wpAny (MM c) c.A (assign tgt env v) (cY c env ρ s.heap (λ _ (_:Unit) (_:Unit)=>True) λ _=>Φ) gD s
section
variable {c:Cx} {env:Env} {loc:aV} {σ:aF} {Φ:AF→aV→aF→Prop} {ΦA:aV→aF→Prop}
theorem cY.ev {α β:Type} {R:Heap→β→α→Prop} {Φ:β→aV→aF→Prop} {ρ:dC} {h h':Heap} {a:α} {s:Shared} (e:Ev h h') (q:cY c env ρ h' R Φ a s):cY c env ρ h R Φ a s:=
 let ⟨b,l,σ',r,p,x,e'⟩:=q;⟨b,l,σ',r,p,x,e.trans e'⟩
theorem Lo {α β:Type} {R:Heap→β→α→Prop} {Φ:β→aV→aF→Prop} {ρ:dC} {h h':Heap} {M:Model} {A:Around} {t:Sem α} {E:Value→Shared→Prop} {s:Shared} (x:wpAny M A t (cY c env ρ h' R Φ) gD s) (e:Ev h h'):wpAny M A t (cY c env ρ h R Φ) E s:=
 wpAny_mono x (λ _ _ z=>z.ev e) λ _ _ e=>e.elim
theorem Gy {α β:Type} {R:Heap→β→α→Prop} {Φ:β→aV→aF→Prop} {ρ:dC} {h:Heap} {M:Model} {A:Around} {t:Sem α} {Q:α→Shared→Prop} {E:Value→Shared→Prop} {s:Shared} (x:wpAny M A t (cY c env ρ h R Φ) gD s) (k:∀v s1 b l σ1,R s1.heap b v→Φ b l σ1→bJ c env l σ1 ρ s1→Ev h s1.heap→Q v s1):wpAny M A t Q E s:=
 wpAny_mono x (λ v s1 hp=>hp.casesOn λ b l σ1 h1 h2 h3=>k v s1 b l σ1 h1 h2 h3.1 h3.2) λ _ _ e=>e.elim
theorem aP (h:Φ .next loc σ):WS c env loc σ (execs [] env) Φ:=λ ρ s q=>wpAny_execs_nil ⟨.next,loc,σ,rfl,h,q,Ev.refl _⟩
noncomputable abbrev CM (c:Cx) (env:Env) (rest:List Stmt) (Φ:AF→aV→aF→Prop):AF→aV→aF→Prop:=λ f l σ'=>match f with | .next=>WS c env l σ' (execs rest env) Φ | f=>Φ f l σ'
noncomputable abbrev CN (Φ:AF→aV→aF→Prop) (loc:aV):AV→aF→Prop:=λ a σ1=>Φ (.ret a) loc σ1
noncomputable abbrev CR (Φ:AF→aV→aF→Prop) (loc:aV):AV→aF→Prop:=λ _ σ1=>Φ .next loc σ1
noncomputable abbrev Wb (Φ:AF→aV→aF→Prop):aV→aF→Prop:=λ l σ2=>Φ .next l σ2
noncomputable abbrev CV (c:Cx) (env:Env) (loc:aV) (tgt:Expr) (Φ:AF→aV→aF→Prop):AV→aF→Prop:=λ a σ1=>WA c env loc σ1 tgt a (Wb Φ)
theorem aE {st:Stmt} {rest:List Stmt} (h:WS c env loc σ (exec st env) (CM c env rest Φ)):
  WS c env loc σ (execs (st::rest) env) Φ:=λ ρ s q=>by
 refine wpAny_execs_cons (Gy (h ρ s q) (λ f s1 b l σ1 hb h₁ q1 e₁=>?_))
 cases b with
 | next=>cases hb;exact Lo (h₁ ρ s1 q1) e₁
 | brk=>cases hb;exact ⟨.brk,l,σ1,rfl,h₁,q1,e₁⟩
 | cont=>cases hb;exact ⟨.cont,l,σ1,rfl,h₁,q1,e₁⟩
 | ret av=>obtain ⟨v,rfl,hv⟩:=hb;exact ⟨.ret av,l,σ1,⟨v,rfl,hv⟩,h₁,q1,e₁⟩
theorem aR {e:Expr} {pos:Pos} (h:WE c env loc σ e (CN Φ loc)):WS c env loc σ (exec (.Return (some e) pos) env) Φ:=λ ρ s q=>
 wpAny_Return_some (hK (h ρ s q) (λ v s1 a σ1 ha h₁ q1 e₁=>⟨.ret a,loc,σ1,⟨v,rfl,ha⟩,h₁,q1,e₁⟩))
theorem bA {e:Expr} {pos:Pos} (h:WE c env loc σ e (CR Φ loc)) (hi:interactive env=false:=by rfl) (hs:swapsWith e none pos.line env=pure false:=by rfl):
  WS c env loc σ (exec (.Expr e pos) env) Φ:=λ ρ s q=>
 wpAny_Expr_any (hK (h ρ s q) (λ v s1 a σ1 ha h₁ q1 e₁=>⟨.next,loc,σ1,rfl,h₁,q1,e₁⟩)) hi hs
theorem eG {test:Expr} {body orelse:List Stmt} {pos:Pos} (h:WB c env loc σ test λ b σ1=>if b then WS c env loc σ1 (execs body env) Φ else WS c env loc σ1 (execs orelse env) Φ):
  WS c env loc σ (exec (.If test body orelse pos) env) Φ:=λ ρ s q=>by
 refine wpAny_If (hK (h ρ s q) (λ b s1 b' σ1 hb h₁ q1 e₁=>?_))
 subst hb
 cases b
 ·exact Lo (h₁ ρ s1 q1) e₁
 ·exact Lo (h₁ ρ s1 q1) e₁
theorem eR {x:Str} {av:AV} (hk:env.kindOf x=some .local) (hc:∀a,(x,a)∉env.cells) (h:ΦA (loc.put x av) σ):
  ∀ρ s v,bJ c env loc σ ρ s→bH s.heap av v→wpAny (MM c) c.A (storeName env x v) (cY c env ρ s.heap (λ _ (_:Unit) (_:Unit)=>True) λ _=>ΦA) gD s:=λ ρ s v q hv=>by
 obtain ⟨m,hm,hq⟩:=q.fr.locs
 refine wpAny_storeName_local hk hm (λ h' hn hs=>?_) (by rw[q.fr.kind];rfl)
 have:=q.store (s':={s with heap:=h',toks:=s.toks+1}) rfl rfl hm hq hv hc hn hs.extBut
 exact ⟨(),_,σ,trivial,h,this.1,this.2⟩
theorem Am {x:Str} {av:AV} {b:Addr} (hk:env.kindOf x=some .cell) (hb:env.cells.lookup x=some b) (hname:∀b',(x,b')∈env.cells→b'=b) (h:ΦA (loc.put x av) σ):
  ∀ρ s v,bJ c env loc σ ρ s→bH s.heap av v→wpAny (MM c) c.A (storeName env x v) (cY c env ρ s.heap (λ _ (_:Unit) (_:Unit)=>True) λ _=>ΦA) gD s:=λ ρ s v q hv=>by
 obtain ⟨u,hu,_⟩:=q.fr.cell x b (mem_of_lookup hb)
 refine wpAny_storeName_cell q.fr.kind hk hb hu λ h' hn hs=>?_
 have:=q.storeCell (s':={s with heap:=h'}) rfl rfl hv (mem_of_lookup hb) (by rw[hk];simp) hname hn hs.extBut
 exact ⟨(),_,σ,trivial,h,this.1,this.2⟩
theorem eJ {x:Str} {pos:Pos} {av:AV} (hk:env.kindOf x=some .local) (h:ΦA (loc.put x av) σ) (hc:∀a,(x,a)∉env.cells:=by intro _;simp):WA c env loc σ (.Name x pos) av ΦA:=
 λ ρ s v q hv=>wpAny_assign_Name (eR hk hc h ρ s v q hv)
theorem Ik {x:Str} {pos:Pos} {av:AV} {b:Addr} (hk:env.kindOf x=some .cell) (hb:env.cells.lookup x=some b) (hname:∀b',(x,b')∈env.cells→b'=b) (h:ΦA (loc.put x av) σ):
  WA c env loc σ (.Name x pos) av ΦA:=λ ρ s v q hv=>wpAny_assign_Name (Am hk hb hname h ρ s v q hv)
theorem Ck {o:Expr} {name:Str} {pos:Pos} {av:AV}
  (h:WE c env loc σ o λ ov σ1=>∃x C d t t' m,ov= .ref x∧σ1 x=some (t,.inst C d)∧σ1 d=some (t',.ns m)∧m.length≤100∧
   findIn (KK c.w) (.ref C) "__setattr__"=some (some (.builtin "object.__setattr__"))∧plainOver (KK c.w) C=true∧takerIn (KK c.w) C name=some none∧hasDictIn (KK c.w) C=true∧
   ΦA loc (σ1.put d (t',.ns (vS m name av)))):WA c env loc σ (.Attribute o name pos) av ΦA:=λ ρ s v q hv=>by
 show wpAny _ _ (holding [v] (eval o env)>>=λ ov=>standAt pos.atName>>=λ _=>holding [v,ov] (setAttr ov name v)>>=λ _=>release [v,ov] []) _ _ _
 refine wpAny_bind (wpAny_holding (hK (h ρ s q) (λ vo s1 ov σ1 ho hz3 q1 e₁=>?_)))
 obtain ⟨x,C,d,t,t',m,eo,hx,hd,hz,h1,h2,h3,h4,h₁⟩:=hz3
 subst eo;rw[VIs_ref] at ho;subst ho
 obtain ⟨m',F,hq⟩:=q1.frame
 obtain ⟨es,n,I,hat⟩:=q1.inst hx hd
 refine wpAny_bind (wpAny_standAt (wpAny_bind (wpAny_holding ?_)))
 have hdo:=(q1.low d).trans (q1.own d _ hd).1
 have nf:=q1.notFrame hd
 have N:News (c.low env) env.locals s1.heap ((d,dictOf es n)::fJ (c.low env) s1.heap env.locals [d]):=λ p hp=>by
  rcases List.mem_cons.mp hp with rfl | hp
  ·exact ⟨I.dict,nf.1,hdo⟩
  ·exact eV p hp
 refine set_dict (es':=putL name (PyData.keyHash c.w.params name) (.str name (s1.toks+1)) v es) (n':=putN name es n) F q1.kx N I rfl h1 h2 h3 h4 ?_ rfl (.head λ p hp=>?_) ?_ λ h' F' N'=>?_
 ·cases hl:m.lookup name with
  | none=>rw[hat.get_none hl];rfl
  | some a=>obtain ⟨u,hu,_⟩:=hat.get_some hl;rw[hu];rfl
 ·have:=(dF.mp (show (p.1,p.2)∈_ from hp)).2.1
  simpa using this
 ·have l1:=(hat.put (hsh:=PyData.keyHash c.w.params name) (t:=s1.toks+1) (x:=name) (hv.ev e₁)).length
  have l2:=oR name av m
  rw[l1];exact S9 hz l2
 ·have:=q1.viaUpd (s':={s1 with heap:=h',toks:=s1.toks+2}) (d:=d) (z:=(t',.ns (vS m name av))) rfl rfl F hq hd F' N' (λ p hp=>List.mem_cons_of_mem _ hp)
   (λ e=>⟨_,_,(N' _ List.mem_cons_self).1,((hat.put (hv.ev e₁)).ev e)⟩)
  exact wpAny_release ⟨(),loc,_,trivial,h₁,this.1,e₁.trans this.2⟩
noncomputable def J6 (c:Cx) (env:Env) (ΦA:aV→aF→Prop):List Expr→List AV→aV→aF→Prop
 | [],[],l,σ=>ΦA l σ
 | t::ts,a::as,l,σ=>WA c env l σ t a λ l' σ'=>J6 c env ΦA ts as l' σ'
 | _,_,_,_=>False
theorem J6.run {ΦA:aV→aF→Prop}:∀{ts:List Expr} {as:List AV} {loc:aV} {σ:aF},J6 c env ΦA ts as loc σ→∀ρ s vs,bJ c env loc σ ρ s→aO s.heap as vs→
  wpAny (MM c) c.A (assignInOrder (ts.map λ t=>assign t env) vs) (cY c env ρ s.heap (λ _ (_:Unit) (_:Unit)=>True) λ _=>ΦA) gD s
 | [],[],loc,σ,h,ρ,s,vs,q,hv=>by rw[hv.nil_inv];exact wpAny_pure ⟨(),loc,σ,trivial,h,q,Ev.refl _⟩
 | t::ts,a::as,loc,σ,h,ρ,s,vs,q,hv=>by
  obtain ⟨v,vr,rfl,h2,h3⟩:=hv.cons_inv
  show wpAny _ _ (holding vr (assign t env v)>>=λ _=>assignInOrder (ts.map λ t=>assign t env) vr) _ _ _
  refine wpAny_bind (wpAny_holding (Gy (h ρ s v q h2) (λ _ s1 _ l₁ σ1 _ h₁ q1 e₁=>?_)))
  exact Lo (J6.run h₁ ρ s1 vr q1 (h3.ev e₁)) e₁
 | [],_::_,_,_,h,_,_,_,_,_=>h.elim
 | _::_,[],_,_,h,_,_,_,_,_=>h.elim
theorem cX {elts:List Expr} {k:Nat} {pos:Pos} {as:List AV} (h:J6 c env ΦA elts as loc σ) (hl:elts.length=as.length)
  (he:assignEach elts env=elts.map (λ t=>(false,assign t env)):=by rfl):WA c env loc σ (.Tuple elts k pos) (.tup as) ΦA:=λ ρ s v q hv=>by
 rw[dN] at hv
 obtain ⟨t,items,rfl,ht,_,hvs⟩:=hv
 refine wpAny_assign_Tuple (items:=items) q.base.hand ⟨_,ht,rfl,0,rfl⟩ ?_ ?_ λ h' hk=>?_
 ·rw[he,List.length_map,hl,←hvs.length,Array.length_toList]
 ·rw[he];clear h hl he
  induction elts with
  | nil=>rfl
  | cons x r ih=>simp[List.findIdx?_cons]
 ·have:=q.moreBut (s':={s with heap:=h'}) rfl rfl (Nat.le_refl _) hk
  have e2:(assignEach elts env).map (·.2)=elts.map λ t=>assign t env:=by rw[he,List.map_map];rfl
  rw[e2]
  exact Lo (J6.run h ρ _ items.toList this.1 (hvs.ev this.2)) this.2
theorem aJ {tgt value:Expr} {pos:Pos} (h:WE c env loc σ value (CV c env loc tgt Φ))
  (hs:swapsWithSole [tgt] value pos.line env=pure false:=by rfl) (hw:swappedStores [tgt] value env=pure none:=by rfl)
  (he:(assignEach [tgt] env).map (·.2)=[assign tgt env]:=by rfl):WS c env loc σ (exec (.Assign [tgt] value pos) env) Φ:=λ ρ s q=>by
 refine wpAny_Assign_stores (hK (h ρ s q) (λ v s1 a σ1 ha h₁ q1 e₁=>?_)) hs hw
 rw[he]
 exact wpAny_mono (h₁ ρ s1 v q1 ha) (λ _ s2 ⟨_,l,σ2,_,h₂,q2,e₂⟩=>⟨.next,l,σ2,rfl,h₂,q2,e₁.trans e₂⟩) λ _ _ e=>e
theorem eI {ts:List Expr} {k:Nat} {tp pos:Pos} {value:Expr} {x y:Str}
  (hw:swappedStores [.Tuple ts k tp] value env=pure (some [x,y]))
  (hx:env.kindOf x=some .local) (hy:env.kindOf y=some .local) (hcx:∀a,(x,a)∉env.cells) (hcy:∀a,(y,a)∉env.cells)
  (h:WE c env loc σ value λ a σ1=>∃u v,a= .tup [u,v]∧Φ .next ((loc.put y v).put x u) σ1)
  (hs:swapsWithSole [.Tuple ts k tp] value pos.line env=pure false:=by rfl):WS c env loc σ (exec (.Assign [.Tuple ts k tp] value pos) env) Φ:=λ ρ s q=>by
 rw[exec_Assign_arm]
 refine wpAny_bind (wpAny_standAt ?_)
 rw[hs]
 refine wpAny_bind (wpAny_pure ?_)
 rw[if_neg (by decide)]
 refine wpAny_bind (hK (h ρ s q) (λ va s1 a σ1 ha hz3 q1 e₁=>?_))
 obtain ⟨u,v,ea,h₁⟩:=hz3
 subst ea
 rw[hw]
 refine wpAny_bind (wpAny_pure ?_)
 rw[dN] at ha
 obtain ⟨t,items,rfl,ht,_,hvs⟩:=ha
 show wpAny _ _ (rule "assign.swapped-stores">>=λ _=>unpackItems (.ref t) 2 none>>=λ items=>assignInOrder ([x,y].reverse.map λ n=>bindName env n) items.reverse>>=λ _=>(pure Flow.next:Sem Flow)) _ _ _
 have hz:items.size=2:=by rw[←Array.length_toList,hvs.length];rfl
 refine wpAny_bind (wpAny_rule (wpAny_bind ?_))
 rw[←hz]
 refine wpAny_unpackItems_tuple q1.base.hand ⟨_,ht,rfl,0,rfl⟩ λ h' hk=>?_
 have m:=q1.moreBut (s':={s1 with heap:=h'}) rfl rfl (Nat.le_refl _) hk
 have hvs':=hvs.ev m.2
 obtain ⟨w1,r1,e1,hu,hr⟩:=hvs'.cons_inv
 obtain ⟨w2,r2,e2,hv,hr2⟩:=hr.cons_inv
 rw[hr2.nil_inv] at e2;subst e2
 rw[e1]
 show wpAny _ _ ((holding [w1] (bindName env y w2)>>=λ _=>holding [] (bindName env x w1)>>=λ _=>pure ())>>=λ _=>pure Flow.next) _ _ _
 refine wpAny_bind (wpAny_bind (wpAny_holding (wpAny_bindName (Gy (eR (ΦA:=λ l σ'=>l=loc.put y v∧σ'=σ1) hy hcy ⟨rfl,rfl⟩ ρ _ w2 m.1 hv) (λ _ s2 _ l σ2 _ hz4 q2 e₂=>?_)))))
 obtain ⟨el,eσ⟩:=hz4
 subst el eσ
 refine wpAny_bind (wpAny_holding (wpAny_bindName (wpAny_mono (eR (ΦA:=λ l σ'=>Φ .next l σ') hx hcx h₁ ρ _ w1 q2 (hu.ev e₂)) (λ _ s3 ⟨_,l,σ3,_,h₃,q3,e3⟩=>?_) λ _ _ e=>e.elim)))
 exact wpAny_pure (wpAny_pure ⟨.next,l,σ3,rfl,h₃,q3,e₁.trans (m.2.trans (e₂.trans e3))⟩)
end
noncomputable def aF.hide (σ:aF) (fp:List Addr):aF:=λ b=>if b∈fp then none else σ b
noncomputable def dC.over (ρ:dC) (fp:List Addr) (h:Heap):dC:=λ b=>if b∈fp then h.get? b else ρ b
theorem aF.hide_some {σ:aF} {fp:List Addr} {b:Addr} {y:Tg×AO} (h:σ.hide fp b=some y):b∉fp∧σ b=some y:=by
 unfold aF.hide at h
 split at h
 ·cases h
 ·exact ⟨by assumption,h⟩
noncomputable def kW (c:Cx) (env:Env) (ρ:dC) (fp:List Addr):Prop:=∀b∈fp,c.h₀.get? b=none∧ρ b=none∧b≠env.locals∧∀n,(n,b)∉env.cells
section
variable {c:Cx} {env:Env} {loc:aV} {σ:aF} {ρ:dC} {s s':Shared} {fp:List Addr}
theorem bJ.hide (x:bJ c env loc σ ρ s) (hf:kW c env ρ fp):bJ c env loc (σ.hide fp) (ρ.over fp s.heap) s where
 base:=x.base
 keep:=x.keep
 obj:=λ a t ao h=>x.obj a t ao (aF.hide_some h).2
 own:=λ a y h=>by
  obtain ⟨h1,h2⟩:=aF.hide_some h
  refine ⟨(x.own a y h2).1,?_⟩
  unfold dC.over;rw[if_neg h1];exact (x.own a y h2).2
 hid:=λ a o h=>by
  unfold dC.over at h
  split at h
  ·exact h
  ·exact x.hid a o h
 gens:=x.gens
 os:=x.os
 fr:={
  kind:=x.fr.kind,glob:=x.fr.glob,bu:=x.fr.bu,locs:=x.fr.locs,cell:=x.fr.cell,capart:=x.fr.capart,above:=x.fr.above
  lown:=⟨x.fr.lown.1,by unfold aF.hide;split;rfl;exact x.fr.lown.2.1,by
   unfold dC.over
   rw[if_neg λ z=>(hf _ z).2.2.1 rfl];exact x.fr.lown.2.2⟩
  cown:=λ n b m=>⟨(x.fr.cown n b m).1,by unfold aF.hide;split;rfl;exact (x.fr.cown n b m).2.1,by
   unfold dC.over
   rw[if_neg λ z=>(hf _ z).2.2.2 n m];exact (x.fr.cown n b m).2.2.1,(x.fr.cown n b m).2.2.2⟩}
theorem bJ.turn (x:bJ c env loc σ (ρ.over fp s.heap) s) (hf:kW c env ρ fp) (hσ:∀b∈fp,σ b=none) (hg:s'.gens=s.gens) (ho:s'.os=s.os)
  (k:∀b o,b∉fp→s.heap.get? b=some o→s'.heap.get? b=some o) (e:Ev s.heap s'.heap):bJ c env loc σ (ρ.over fp s'.heap) s' where
 base:=x.base
 keep:=λ b o h=>k b o (λ z=>by rw[(hf b z).1] at h;cases h) (x.keep b o h)
 obj:=λ a t ao h=>(x.obj a t ao h).mono e λ o=>k a o (λ z=>by rw[hσ a z] at h;cases h)
 own:=λ a y h=>by
  refine ⟨(x.own a y h).1,?_⟩
  have n:a∉fp:=λ z=>by rw[hσ a z] at h;cases h
  have:=(x.own a y h).2
  unfold dC.over at this⊢;rw[if_neg n] at this⊢;exact this
 hid:=λ a o h=>by
  unfold dC.over at h
  split at h
  ·exact h
  ·rename_i n
   exact k a o n (x.hid a o (by unfold dC.over;rw[if_neg n];exact h))
 gens:=hg.trans x.gens
 os:=ho.trans x.os
 fr:={
  kind:=x.fr.kind,glob:=x.fr.glob,bu:=x.fr.bu,capart:=x.fr.capart,above:=x.fr.above
  locs:=let ⟨m,⟨o,es,ep,h1,r⟩,q⟩:=x.fr.locs;⟨m,⟨o,es,ep,k _ _ (λ z=>(hf _ z).2.2.1 rfl) h1,r⟩,λ y hy=>(q y hy).ev e⟩
  cell:=λ n b m=>let ⟨u,⟨o,h1,r⟩,q⟩:=x.fr.cell n b m;⟨u,⟨o,k _ _ (λ z=>(hf _ z).2.2.2 n m) h1,r⟩,q.ev e⟩
  lown:=⟨x.fr.lown.1,x.fr.lown.2.1,by
   have:=x.fr.lown.2.2
   have n:env.locals∉fp:=λ z=>(hf _ z).2.2.1 rfl
   unfold dC.over at this⊢;rw[if_neg n] at this⊢;exact this⟩
  cown:=λ n b m=>⟨(x.fr.cown n b m).1,(x.fr.cown n b m).2.1,by
   have:=(x.fr.cown n b m).2.2.1
   have n':b∉fp:=λ z=>(hf _ z).2.2.2 n m
   unfold dC.over at this⊢;rw[if_neg n'] at this⊢;exact this,(x.fr.cown n b m).2.2.2⟩}
theorem bJ.unhide (x:bJ c env loc σ (ρ.over fp s.heap) s) (hf:kW c env ρ fp) (hσ:∀b∈fp,σ b=none):bJ c env loc σ ρ s where
 base:=x.base
 keep:=x.keep
 obj:=x.obj
 own:=λ a y h=>by
  refine ⟨(x.own a y h).1,?_⟩
  have n:a∉fp:=λ z=>by rw[hσ a z] at h;cases h
  have:=(x.own a y h).2
  unfold dC.over at this;rw[if_neg n] at this;exact this
 hid:=λ a o h=>by
  have n:a∉fp:=λ z=>by rw[(hf a z).2.1] at h;cases h
  exact x.hid a o (by unfold dC.over;rw[if_neg n];exact h)
 gens:=x.gens
 os:=x.os
 fr:={
  kind:=x.fr.kind,glob:=x.fr.glob,bu:=x.fr.bu,locs:=x.fr.locs,cell:=x.fr.cell,capart:=x.fr.capart,above:=x.fr.above
  lown:=⟨x.fr.lown.1,x.fr.lown.2.1,by
   have:=x.fr.lown.2.2
   have n:env.locals∉fp:=λ z=>(hf _ z).2.2.1 rfl
   unfold dC.over at this;rw[if_neg n] at this;exact this⟩
  cown:=λ n b m=>⟨(x.fr.cown n b m).1,(x.fr.cown n b m).2.1,by
   have:=(x.fr.cown n b m).2.2.1
   have n':b∉fp:=λ z=>(hf _ z).2.2.2 n m
   unfold dC.over at this;rw[if_neg n'] at this;exact this,(x.fr.cown n b m).2.2.2⟩}
theorem bJ.ext (x:bJ c env loc σ ρ s) {σ':aF} (h:∀b,σ' b=σ b):bJ c env loc σ' ρ s:=by
 have:σ'=σ:=funext h
 subst this;exact x
theorem bJ.track (x:bJ c env loc σ ρ s) {a:Addr} {y:Tg×AO} (hn:c.h₀.get? a=none∧ρ a=none∧a≠env.locals∧∀n,(n,a)∉env.cells) (q:xC c.prog c.w s.heap a y.2):
  bJ c env loc (σ.put a y) ρ s:=x.put rfl rfl (λ _ _ _ e=>e) (Ev.refl _) hn q
end
structure Cm (c:Cx) (it:Value) (tgt:Expr) (fp:List Addr) (xs:List AV) (St:Nat→Heap→Prop) (kp:List (Addr×AO):=[]):Prop where
 kin:∀x∈kp,x.1∈fp
 live:∀i h,St i h→∀a∈fp,∃o,h.get? a=some o
 frame:∀i h h',St i h→Ev h h'→(∀a∈fp,∀o,h.get? a=some o→h'.get? a=some o)→St i h'
 self:∀(A:Around) s (Q:Value→Shared→Prop),St 0 s.heap→Q it s→wpAny (MM c) A (pyIter it) Q gD s
 next:∀(A:Around) i x s (Q:Value→Shared→Prop),A.handled=none→St i s.heap→xs[i]? =some x→
  (∀v s',bH s'.heap x v→St (i+1) s'.heap→s'.gens=s.gens→s'.os=s.os→(∀b o,b∉fp→s.heap.get? b=some o→s'.heap.get? b=some o)→Ev s.heap s'.heap→Q v s')→
  wpAny (MM c) A (pyNext it) (λ r s1=>∃v,r=some v∧wpAny (MM c) A (letOwnedTupleGo tgt it v) (λ _=>Q v) gD s1) gD s
 fin:∀(A:Around) s (Q:Shared→Prop),A.handled=none→St xs.length s.heap→
  (∀s',s'.gens=s.gens→s'.os=s.os→(∀b o,b∉fp→s.heap.get? b=some o→s'.heap.get? b=some o)→Ev s.heap s'.heap→(∀x∈kp,xC c.prog c.w s'.heap x.1 x.2)→Q s')→
  wpAny (MM c) A (pyNext it) (λ r s1=>r=none∧Q s1) gD s
theorem Cm.more {c:Cx} {it:Value} {tgt:Expr} {fp:List Addr} {xs:List AV} {St:Nat→Heap→Prop} {r:Addr} (x:Cm c it tgt fp xs St) (hr:r∉fp):Cm c it tgt (r::fp) xs (λ i h=>St i h∧∃o,h.get? r=some o) where
 kin:=nn
 live:=λ i h hs a ha=>by
  rcases List.mem_cons.mp ha with rfl | ha
  ·exact hs.2
  ·exact x.live i h hs.1 a ha
 frame:=λ i h h' hs e k=>⟨x.frame i h h' hs.1 e λ a ha=>k a (List.mem_cons_of_mem _ ha),hs.2.imp λ o ho=>k r List.mem_cons_self o ho⟩
 self:=λ A s Q h=>x.self A s Q h.1
 next:=λ A i y s Q hh h hx k=>x.next A i y s Q hh h.1 hx λ v s' a b d e f g=>k v s' a ⟨b,h.2.imp λ o ho=>f r o hr ho⟩ d e (λ b o hb=>f b o λ m=>hb (List.mem_cons_of_mem _ m)) g
 fin:=λ A s Q hh h k=>x.fin A s Q hh h.1 λ s' a b d e _=>k s' a b (λ b o hb=>d b o λ m=>hb (List.mem_cons_of_mem _ m)) e nn
noncomputable def iI (c:Cx) (σ1:aF) (a:AV) (tgt:Expr) (xs:List AV) (σ2:aF) (kp:List (Addr×AO)):Prop:=
 ∀env loc ρ s v (Q:Value→Shared→Prop),bJ c env loc σ1 ρ s→bH s.heap a v→
  (∀it s' fp St,Cm c it tgt fp xs St kp→St 0 s'.heap→bJ c env loc σ1 ρ s'→Ev s.heap s'.heap→kW c env ρ fp→(∀b,σ1.hide fp b=σ2 b)→Q it s')→
  wpAny (MM c) c.A (pyIter v) Q gD s
noncomputable abbrev hW (c:Cx) (σ1:aF) (a:AV) (tgt:Expr) (xs:List AV) (σ2:aF):Prop:=iI c σ1 a tgt xs σ2 []
theorem Cm.weak {c:Cx} {it:Value} {tgt:Expr} {fp:List Addr} {xs:List AV} {St:Nat→Heap→Prop} {kp:List (Addr×AO)} (x:Cm c it tgt fp xs St kp):Cm c it tgt fp xs St:=
 ⟨nn,x.live,x.frame,x.self,x.next,λ A s Q hh hs k=>x.fin A s Q hh hs λ s' a b d e _=>k s' a b d e nn⟩
theorem iI.weak {c:Cx} {σ1:aF} {a:AV} {tgt:Expr} {xs:List AV} {σ2:aF} {kp:List (Addr×AO)} (x:iI c σ1 a tgt xs σ2 kp):hW c σ1 a tgt xs σ2:=
 λ env loc ρ s v Q q hv k=>x env loc ρ s v Q q hv λ it s' fp St h=>k it s' fp St h.weak
theorem iI.more {c:Cx} {σ:aF} {a:AV} {tgt:Expr} {xs:List AV} {σ2:aF} {r:Addr} {t:Tg} {y:AO} (x:hW c σ a tgt xs σ2) (hr:σ r=some (t,y)):hW c σ a tgt xs (σ2.del r):=λ env loc ρ s v Q q hv k=>x env loc ρ s v Q q hv λ it s' fp St h h0 q' e ap hh=>by
 by_cases m:r∈fp
 ·refine k it s' fp St h h0 q' e ap λ b=>(hh b).trans ?_
  unfold aF.del
  by_cases w:b=r
  ·subst w;rw[if_pos rfl,←hh b];unfold aF.hide;rw[if_pos m]
  ·rw[if_neg w]
 ·obtain ⟨o,ho,_⟩:=(q'.obj r t y hr).obj
  refine k it s' (r::fp) _ (h.more m) ⟨h0,o,ho⟩ q' e (λ b hb=>?_) λ b=>?_
  ·rcases List.mem_cons.mp hb with rfl | hb
   ·exact ⟨(q'.own b _ hr).1,(q'.own b _ hr).2,q'.notFrame hr⟩
   ·exact ap b hb
  ·unfold aF.del
   rw[←hh b]
   unfold aF.hide
   by_cases w:b=r
   ·subst w;rw[if_pos rfl,if_pos List.mem_cons_self]
   ·rw[if_neg w]
    by_cases w2:b∈fp
    ·rw[if_pos w2,if_pos (List.mem_cons_of_mem _ w2)]
    ·rw[if_neg w2,if_neg λ z=>(List.mem_cons.mp z).elim w w2]
noncomputable def iY:Expr→Bool
 | .Name .. | .Tuple .. =>true
 | _=>false
section
variable {c:Cx} {M:Model} {A:Around} {E:Value→Shared→Prop} {s:Shared}
theorem eY {tgt:Expr} (ht:iY tgt=true) {I:Addr} {v:Value} {o:Obj} (ho:s.heap.get? I=some o) {T:String} (hc:o.cls= .type T)
  (hT:(["enumerate","zip","dict_itemiterator","dict_reverseitemiterator","odict_iterator","itertools.zip_longest","itertools.pairwise"]:List String).contains T=false)
  {Q:Unit→Shared→Prop} (h:Q () s):wpAny (MM c) A (letOwnedTupleGo tgt (.ref I) v) Q E s:=by
 unfold letOwnedTupleGo
 cases tgt with
 | Name x p=>exact wpAny_pure h
 | Tuple es k p=>
  cases v with
  | ref a=>
   dsimp only
   refine wpAny_bind (wpAny_load ho ?_)
   obtain ⟨oc,od,oda,osl⟩:=o
   dsimp only at hc;subst hc
   cases oda with
   | fields vs=>
    dsimp only
    rw[hT]
    exact wpAny_pure h
   | _=>exact wpAny_pure h
  | _=>exact wpAny_pure h
 | _=>cases ht
end
theorem Fw {c:Cx} {I l:Addr} {tgt:Expr} {xs:List AV} {items:Array Value} {n:Nat} (ht:iY tgt=true) (hne:I≠l):
  Cm c (.ref I) tgt [I,l] xs (λ i h=>h.IsListIter I l i∧h.get? l=some (listOf items n)∧aO h xs items.toList) [(l,.list xs)] where
 kin:=λ x hx=>by rw[List.mem_singleton] at hx;subst hx;simp
 live:=λ i h ⟨⟨o,ho,r⟩,hl,hv⟩ a ha=>by
  simp only[List.mem_cons,List.not_mem_nil,or_false] at ha
  rcases ha with rfl | rfl
  ·exact ⟨_,ho⟩
  ·exact ⟨_,hl⟩
 frame:=λ i h h' ⟨⟨o,ho,r⟩,hl,hv⟩ e k=>⟨⟨o,k I (by simp) _ ho,r⟩,k l (by simp) _ hl,hv.ev e⟩
 self:=λ A s Q ⟨hi,_⟩ q=>wpAny_pyIter_listiter hi q
 next:=λ A i x s Q hh ⟨hi,hl,hv⟩ hx k=>by
  obtain ⟨v,hv1,hv2⟩:=hv.get hx
  have hl':s.heap.IsList l items:=⟨_,hl,rfl,n,rfl⟩
  obtain ⟨oI,hoI,hcI,hdI⟩:=id hi
  refine wpAny_pyNext_list_item hi hl' (by simpa using hv1) λ h' hi' hs=>⟨v,rfl,?_⟩
  have e:Ev s.heap h':=Ev.but hoI (λ _ z=>by subst z;cases hdI) hs.extBut
  obtain ⟨o',ho',hc',_⟩:=id hi'
  refine eY ht ho' hc' (by decide) (k v _ (hv2.ev e) ⟨hi',(hs.2 l (Ne.symm hne)).trans hl,hv.ev e⟩ rfl rfl (λ b o hb z=>(hs.2 b (λ w=>hb (by simp[w]))).trans z) e)
 fin:=λ A s Q hh ⟨hi,hl,hv⟩ k=>by
  have hl':s.heap.IsList l items:=⟨_,hl,rfl,n,rfl⟩
  obtain ⟨oI,hoI,hcI,hdI⟩:=id hi
  refine wpAny_pyNext_list_end hh hi hl' ?_ λ h' hs=>⟨rfl,k _ rfl rfl (λ b o hb z=>hs b o (λ w=>hb (by simp[w])) z) (Ev.but hoI (λ _ z=>by subst z;cases hdI) hs) λ x hx=>by
   rw[List.mem_singleton] at hx;subst hx
   exact ⟨items,n,hs l _ (Ne.symm hne) hl,hv.ev (Ev.but hoI (λ _ z=>by subst z;cases hdI) hs)⟩⟩
  have:=hv.length
  rw[←this];simp
theorem rH {c:Cx} {σ:aF} {l:Addr} {t:Tg} {xs:List AV} {tgt:Expr} (ht:iY tgt=true) (hl:σ l=some (t,.list xs)):iI c σ (.ref l) tgt xs (σ.del l) [(l,.list xs)]:=
 λ env loc ρ s v Q q hv k=>by
  rw[VIs_ref] at hv;subst hv
  obtain ⟨items,n,h1,h2⟩:=q.obj l t _ hl
  refine wpAny_pyIter_list ⟨_,h1,rfl,n,rfl⟩ ?_
  have m:=q.more (s':={s with heap:=s.heap.push {cls:=.type "list_iterator",data:=.fields #[.ref l,.int 0 0]} }) rfl rfl λ _ _ z=>Heap.get?_push_of_some _ z
  have f:=q.toSat0.fresh (Nat.le_refl s.heap.objs.size)
  have hne:s.heap.objs.size≠l:=λ z=>by rw[z,hl] at f;cases f.1
  refine k _ _ [s.heap.objs.size,l] _ (Fw (items:=items) (n:=n) (xs:=xs) ht hne) ⟨⟨_,Heap.get?_push_size _ rfl,rfl,rfl⟩,Heap.get?_push_of_some _ h1,h2.ev m.2⟩ m.1 m.2 ?_ ?_
  ·intro b hb
   rcases List.mem_cons.mp hb with rfl | hb
   ·exact ⟨f.2.2,f.2.1,q.lt_frame (Nat.le_refl _)⟩
   ·rw[List.mem_singleton] at hb;subst hb
    exact ⟨(q.own b _ hl).1,(q.own b _ hl).2,q.notFrame hl⟩
  ·intro b
   unfold aF.hide aF.del
   by_cases h1:b=l
   ·simp[h1]
   ·by_cases h2:b=s.heap.objs.size
    ·subst h2;simp[f.1]
    ·simp[h1,h2]
theorem eU {c:Cx} {σ:aF} {l:Addr} {t:Tg} {xs:List AV} {tgt:Expr} (ht:iY tgt=true) (hl:σ l=some (t,.list xs)):hW c σ (.ref l) tgt xs (σ.del l):=(rH ht hl).weak
theorem Dd {c:Cx} {I t:Addr} {tgt:Expr} {xs:List AV} {items:Array Value} (ht:iY tgt=true) (hne:I≠t):
  Cm c (.ref I) tgt [I] xs (λ i h=>h.IsTupleIter I t i∧h.get? t=some (cB items)∧aO h xs items.toList) where
 kin:=nn
 live:=λ i h ⟨⟨o,ho,r⟩,hl,hv⟩ a ha=>by
  rw[List.mem_singleton] at ha;subst ha
  exact ⟨_,ho⟩
 frame:=λ i h h' ⟨⟨o,ho,r⟩,hl,hv⟩ e k=>⟨⟨o,k I (by simp) _ ho,r⟩,e _ _ hl,hv.ev e⟩
 self:=λ A s Q ⟨hi,_⟩ q=>wpAny_pyIter_tupleiter hi q
 next:=λ A i x s Q hh ⟨hi,hl,hv⟩ hx k=>by
  obtain ⟨v,hv1,hv2⟩:=hv.get hx
  have hl':s.heap.IsTuple t items:=⟨_,hl,rfl,0,rfl⟩
  obtain ⟨oI,hoI,hcI,hdI⟩:=id hi
  refine wpAny_pyNext_tuple_item hi hl' (by simpa using hv1) λ h' hi' hs=>⟨v,rfl,?_⟩
  have e:Ev s.heap h':=Ev.but hoI (λ _ z=>by subst z;cases hdI) hs.extBut
  obtain ⟨o',ho',hc',_⟩:=id hi'
  refine eY ht ho' hc' (by decide) (k v _ (hv2.ev e) ⟨hi',e _ _ hl,hv.ev e⟩ rfl rfl (λ b o hb z=>(hs.2 b (λ w=>hb (by simp[w]))).trans z) e)
 fin:=λ A s Q hh ⟨hi,hl,hv⟩ k=>by
  have hl':s.heap.IsTuple t items:=⟨_,hl,rfl,0,rfl⟩
  obtain ⟨oI,hoI,hcI,hdI⟩:=id hi
  refine wpAny_pyNext_tuple_end hh hi hl' ?_ λ h' hs=>⟨rfl,k _ rfl rfl (λ b o hb z=>hs b o (λ w=>hb (by simp[w])) z) (Ev.but hoI (λ _ z=>by subst z;cases hdI) hs) nn⟩
  have:=hv.length
  rw[←this];simp
theorem dQ {c:Cx} {σ:aF} {xs:List AV} {tgt:Expr} (ht:iY tgt=true):hW c σ (.tup xs) tgt xs σ:=
 λ env loc ρ s v Q q hv k=>by
  rw[dN] at hv
  obtain ⟨t,items,rfl,h1,_,h2⟩:=hv
  refine wpAny_pyIter_tuple ⟨_,h1,rfl,0,rfl⟩ ?_
  have m:=q.more (s':={s with heap:=s.heap.push {cls:=.type "tuple_iterator",data:=.fields #[.ref t,.int 0 0]} }) rfl rfl λ _ _ z=>Heap.get?_push_of_some _ z
  have f:=q.toSat0.fresh (Nat.le_refl s.heap.objs.size)
  have hne:s.heap.objs.size≠t:=λ z=>absurd (Heap.lt_size h1) (Nat.not_lt.mpr (Nat.le_of_eq z))
  refine k _ _ [s.heap.objs.size] _ (Dd (items:=items) (xs:=xs) ht hne) ⟨⟨_,Heap.get?_push_size _ rfl,rfl,rfl⟩,Heap.get?_push_of_some _ h1,h2.ev m.2⟩ m.1 m.2 ?_ ?_
  ·intro b hb
   rw[List.mem_singleton] at hb;subst hb
   exact ⟨f.2.2,f.2.1,q.lt_frame (Nat.le_refl _)⟩
  ·intro b
   unfold aF.hide
   by_cases h2:b=s.heap.objs.size
   ·subst h2;simp[f.1]
   ·simp[h2]
noncomputable def dD (lo hi:Int):List AV:=(List.range (hi-lo).toNat).map λ (i:Nat)=>AV.int (lo+i)
theorem cU (lo hi:Int):(dD lo hi).length=(hi-lo).toNat:=by simp[dD]
theorem gZ {lo hi:Int} {i:Nat} {x:AV} (h:(dD lo hi)[i]? =some x):i<(hi-lo).toNat∧x= .int (lo+i):=by
 unfold dD at h
 rw[List.getElem?_map] at h
 obtain ⟨j,hj,rfl⟩:=Option.map_eq_some_iff.mp h
 have:=List.getElem?_eq_some_iff.mp hj
 obtain ⟨h1,h2⟩:=this
 rw[List.length_range] at h1
 rw[List.getElem_range] at h2
 subst h2
 exact ⟨h1,rfl⟩
theorem lA (lo hi:Int):Builtin.Range.rangeSize lo hi 1=((hi-lo).toNat:Int):=by
 unfold Builtin.Range.rangeSize
 simp only[show (1:Int)>0 from by decide,if_true,Int.ediv_one]
 split<;>(first | exact U4 ‹_› | exact U3 ‹_›)
theorem oM {lo hi:Int} (h1: -1000000000≤lo) (h2:lo≤1000000000) (h3: -1000000000≤hi) (h4:hi≤1000000000):Builtin.Range.small lo hi 1=true:=by
 have f:∀x:Int,-4000000000≤x→x≤4000000000→Builtin.Range.rangeFitsLong x=true:=λ x a b=>by
  unfold Builtin.Range.rangeFitsLong
  rw[Bool.and_eq_true,decide_eq_true_eq,decide_eq_true_eq]
  constructor
  ·have: -(2^63:Int)≤ -4000000000:=by decide
   exact lq8 a
  ·have:(4000000000:Int)<2^63:=by decide
   exact BQ b
 unfold Builtin.Range.small
 rw[lA]
 have e:=f ((hi-lo).toNat:Int) (by exact Int.natCast_nonneg _) (by exact U6 h1 h4)
 rw[f lo (by exact lq6 h1) (by exact Th h2),f hi (by exact lq6 h3) (by exact Th h4),f 1 (by exact Int.natCast_nonneg _) (by exact Int.natCast_nonneg _),e,f (hi+(1-1)) (by exact lq7 h3) (by exact BS h4)]
 simp
theorem De {c:Cx} {I:Addr} {tgt:Expr} {lo hi:Int} (ht:iY tgt=true):
  Cm c (.ref I) tgt [I] (dD lo hi) (λ i h=>IsRangeIter h I (lo+i) ((hi-lo).toNat-(i:Int)) 1) where
 kin:=nn
 live:=λ i h hi a ha=>by (rw[List.mem_singleton] at ha;subst ha;exact ⟨_,hi⟩)
 frame:=λ i h h' hi e k=>k I (by simp) _ hi
 self:=λ A s Q hi q=>wpAny_pyIter_rangeiter hi q
 next:=λ A i x s Q hh hI hx k=>by
  obtain ⟨hlt,rfl⟩:=gZ hx
  refine wpAny_pyNext_range_item hI (by exact U7 hlt) λ h' hi' hs=>⟨_,rfl,?_⟩
  have e:Ev s.heap h':=Ev.but hI (λ _ z=>by have:=congrArg Obj.cls z;simp at this) hs.extBut
  refine eY ht hi' rfl (by decide) (k _ _ (by simp) ?_ rfl rfl (λ b o hb z=>(hs.2 b (λ w=>hb (by simp[w]))).trans z) e)
  have a1:lo+(i:Int)+1=lo+((i+1:Nat):Int):=by exact Ms
  have a2:((hi-lo).toNat:Int)-(i:Int)-1=((hi-lo).toNat:Int)-((i+1:Nat):Int):=by exact Ml
  show IsRangeIter h' I _ _ 1
  rw[←a1,←a2];exact hi'
 fin:=λ A s Q hh hI k=>by
  refine wpAny_pyNext_range_end hh hI (by rw[cU];exact U2) λ h' hs=>⟨rfl,k _ rfl rfl (λ b o hb z=>hs b o (λ w=>hb (by simp[w])) z) (Ev.but hI (λ _ z=>by have:=congrArg Obj.cls z;simp at this) hs) nn⟩
theorem lJ {c:Cx} {σ:aF} {r:Addr} {t:Tg} {lo hi:Int} {tgt:Expr} (hr:σ r=some (t,.range lo hi)) (h1: -1000000000≤lo) (h2:lo≤1000000000) (h3: -1000000000≤hi) (h4:hi≤1000000000)
  (ht:iY tgt=true:=by rfl):hW c σ (.ref r) tgt (dD lo hi) σ:=
 λ env loc ρ s v Q q hv k=>by
  rw[VIs_ref] at hv;subst hv
  obtain ⟨t1,u1,v1,h⟩:=q.obj r t _ hr
  refine wpAny_pyIter_range h (oM h1 h2 h3 h4) ?_
  have m:=q.more (s':={s with heap:=s.heap.push {cls:=.type "range_iterator",data:=.fields #[rawInt lo,rawInt (Builtin.Range.rangeSize lo hi 1),rawInt 1]} }) rfl rfl λ _ _ z=>Heap.get?_push_of_some _ z
  have f:=q.toSat0.fresh (Nat.le_refl s.heap.objs.size)
  refine k _ _ [s.heap.objs.size] _ (De (lo:=lo) (hi:=hi) ht) ?_ m.1 m.2 ?_ ?_
  ·show IsRangeIter (s.heap.push _) _ _ _ _
   unfold IsRangeIter
   rw[Heap.get?_push_size _ rfl,lA]
   simp
  ·intro b hb
   rw[List.mem_singleton] at hb;subst hb
   exact ⟨f.2.2,f.2.1,q.lt_frame (Nat.le_refl _)⟩
  ·intro b
   unfold aF.hide
   by_cases h2:b=s.heap.objs.size
   ·subst h2;simp[f.1]
   ·simp[h2]
theorem yF {c:Cx} {σ:aF} {r:Addr} {t:Tg} {n:Nat} {tgt:Expr} (hr:σ r=none) (hn:n≤1000000) (ht:iY tgt=true):hW c (σ.put r (t,.range 0 (n:Int))) (.ref r) tgt (dD 0 (n:Int)) σ:=
 λ env loc ρ s v Q q hv k=>iI.more (lJ (aF.put_same σ r (t,.range 0 (n:Int))) (by decide) (by decide) (by exact Vm) (by exact AB hn) ht) (aF.put_same ..) env loc ρ s v Q q hv λ it s' fp St h h0 q' e ap hh=>k it s' fp St h h0 q' e ap λ b=>(hh b).trans (by
  unfold aF.del aF.put
  by_cases w:b=r
  ·subst w;rw[if_pos rfl,hr]
  ·rw[if_neg w,if_neg w])
noncomputable def lN (xs:List AV):List AV:=xs.zipIdx.map λ p=>.tup [.int (p.2:Int),p.1]
theorem kS (xs:List AV):(lN xs).length=xs.length:=by simp[lN]
theorem rY {xs:List AV} {i:Nat} {x:AV} (h:(lN xs)[i]? =some x):∃y,xs[i]? =some y∧x= .tup [.int (i:Int),y]:=by
 unfold lN at h
 rw[List.getElem?_map,List.getElem?_zipIdx] at h
 simp only[Option.map_map,Option.map_eq_some_iff] at h
 obtain ⟨y,hy,rfl⟩:=h
 exact ⟨y,hy,by simp⟩
theorem Fx {c:Cx} {I J l:Addr} {elts:List Expr} {k:Nat} {pos:Pos} {xs:List AV} {items:Array Value} {n:Nat} (h1:I≠J) (h2:l≠I) (h3:l≠J):
  Cm c (.ref I) (.Tuple elts k pos) [I,J,l] (lN xs) (λ i h=>(∃old,IsEnum h I J i old)∧h.IsListIter J l i∧h.get? l=some (listOf items n)∧aO h xs items.toList) [(l,.list xs)] where
 kin:=λ x hx=>by rw[List.mem_singleton] at hx;subst hx;simp
 live:=λ i h ⟨⟨old,hI⟩,⟨o,ho,r⟩,hl,hv⟩ a ha=>by
  simp only[List.mem_cons,List.not_mem_nil,or_false] at ha
  rcases ha with rfl | rfl | rfl
  ·exact ⟨_,hI⟩
  ·exact ⟨_,ho⟩
  ·exact ⟨_,hl⟩
 frame:=λ i h h' ⟨⟨old,hI⟩,⟨o,ho,r⟩,hl,hv⟩ e k=>⟨⟨old,k I (by simp) _ hI⟩,⟨o,k J (by simp) _ ho,r⟩,k l (by simp) _ hl,hv.ev e⟩
 self:=λ A s Q ⟨⟨old,hI⟩,_⟩ q=>wpAny_pyIter_enum hI q
 next:=λ A i x s Q hh ⟨⟨old,hI⟩,hJ,hl,hv⟩ hx k=>by
  obtain ⟨y,hy,rfl⟩:=rY hx
  obtain ⟨v,hv1,hv2⟩:=hv.get hy
  have hl':s.heap.IsList l items:=⟨_,hl,rfl,n,rfl⟩
  obtain ⟨oJ,hoJ,hcJ,hdJ⟩:=id hJ
  refine wpAny_pyNext_enum_item hI hJ hl' (by simpa using hv1) h1 λ h' hI' hJ' ht hz hk=>⟨_,rfl,?_⟩
  refine wpAny_letOwnedTupleGo_enum hI' λ h'' hI'' hs=>?_
  have e1:Ev s.heap h':=λ b its z=>hk b _ (λ w=>by subst w;rw[hI] at z;have:=congrArg (Option.map Obj.cls) z;simp at this) (λ w=>by subst w;rw[hoJ] at z;cases z;cases hdJ) z
  have e2:Ev h' h'':=Ev.but hI' (λ _ z=>by have:=congrArg Obj.cls z;simp at this) hs.extBut
  have e:=e1.trans e2
  have hsz:s.heap.objs.size≠I:=Nat.ne_of_gt (Heap.lt_size hI)
  refine k _ _ (dN.mpr ⟨s.heap.objs.size,#[.int i s.toks,v],rfl,(hs.2 _ hsz).trans ht,by simp,.cons (by simp) (.cons (hv2.ev e) .nil)⟩) ⟨⟨v,hI''⟩,?_,?_,hv.ev e⟩ rfl rfl ?_ e
  ·obtain ⟨o',ho',r'⟩:=hJ'
   exact ⟨o',(hs.2 J (Ne.symm h1)).trans ho',r'⟩
  ·exact (hs.2 l h2).trans (hk l _ h2 h3 hl)
  ·intro b o hb z
   exact (hs.2 b (λ w=>hb (by simp[w]))).trans (hk b o (λ w=>hb (by simp[w])) (λ w=>hb (by simp[w])) z)
 fin:=λ A s Q hh ⟨⟨old,hI⟩,hJ,hl,hv⟩ k=>by
  have hl':s.heap.IsList l items:=⟨_,hl,rfl,n,rfl⟩
  obtain ⟨oJ,hoJ,hcJ,hdJ⟩:=id hJ
  rw[kS] at hI hJ
  refine wpAny_pyNext_enum_end hh hI hJ hl' ?_ λ h' hs=>⟨rfl,k _ rfl rfl (λ b o hb z=>hs b o (λ w=>hb (by simp[w])) z) (Ev.but hoJ (λ _ z=>by subst z;cases hdJ) hs) λ x hx=>by
   rw[List.mem_singleton] at hx;subst hx
   exact ⟨items,n,hs l _ h3 hl,hv.ev (Ev.but hoJ (λ _ z=>by subst z;cases hdJ) hs)⟩⟩
  have:=hv.length
  rw[←this];simp
theorem A4 {c:Cx} {σ:aF} {I J l:Addr} {t1 t2 t3:Tg} {xs:List AV} {elts:List Expr} {k:Nat} {pos:Pos} (hI:σ I=some (t1,.enum J)) (hJ:σ J=some (t2,.lit l)) (hl:σ l=some (t3,.list xs))
  :iI c σ (.ref I) (.Tuple elts k pos) (lN xs) (σ.hide [I,J,l]) [(l,.list xs)]:=
 λ env loc ρ s v Q q hv k=>by
  rw[VIs_ref] at hv;subst hv
  obtain ⟨old,h1⟩:=q.obj I _ _ hI
  obtain ⟨items,n,h2,h3⟩:=q.obj l _ _ hl
  have hJ':=q.obj J _ _ hJ
  have n1:I≠J:=λ w=>by subst w;rw[hI] at hJ;cases hJ
  have n2:l≠I:=λ w=>by subst w;rw[hI] at hl;cases hl
  have n3:l≠J:=λ w=>by subst w;rw[hJ] at hl;cases hl
  refine wpAny_pyIter_enum h1 ?_
  refine k _ _ [I,J,l] _ (Fx (items:=items) (n:=n) (xs:=xs) n1 n2 n3) ⟨⟨old,h1⟩,hJ',h2,h3⟩ q (Ev.refl _) ?_ (λ _=>rfl)
  intro b hb
  have:∃y,σ b=some y:=by
   simp only[List.mem_cons,List.not_mem_nil,or_false] at hb
   rcases hb with rfl | rfl | rfl
   ·exact ⟨_,hI⟩
   ·exact ⟨_,hJ⟩
   ·exact ⟨_,hl⟩
  obtain ⟨y,hy⟩:=this
  exact ⟨(q.own b _ hy).1,(q.own b _ hy).2,q.notFrame hy⟩
theorem nW {c:Cx} {A:Around} {s:Shared} {R:Result→Shared→Prop} {target:Expr} {it:Value} {body:List Stmt} {env:Env} (I:Nat→Shared→Prop)
  (turn:∀n s,I n s→wpAny (MM c) A (pyNext it) (λ r s1=>match r with
   | none=>R (.ok .next) s1
   | some v=>wpAny (MM c) A (letOwnedTupleGo target it v) (λ _ s1'=>wpAny (MM c) A (assign target env v) (λ _ s2=>wpAny (MM c) A (execs body env) (λ f s3=>match f with
     | .next | .cont=>∃m,m<n∧I m s3
     | .brk=>R (.ok .next) s3
     | .ret v=>R (.ok (.ret v)) s3) gD s2) gD s1') gD s1) gD s)
  (n:Nat) (h:I n s):codeAny (MM c) A (.forLoop target it body [] env) R s:=by
 refine codeAny_loop' rfl I (λ n s hI=>?_) n h
 show wpAny _ _ ((forTurn target it body [] env).onRaise (λ x=>do noteFrame x env;theTreesLotGoes x)) _ _ s
 refine wpAny_noted ?_
 simp only[forTurn]
 refine wpAny_bind (wpAny_standAt (wpAny_bind (wpAny_onRaise (wpAny_mono (turn n s hI) (λ r s1 h₁=>?_) λ _ _ h'=>h'.elim))))
 cases r with
 | none=>exact wpAny_pure (.inr ⟨rfl,codeAny_block (wpAny_execs_nil h₁)⟩)
 | some v=>
  refine wpAny_bind (wpAny_mono h₁ (λ _ s1' h1'=>?_) λ _ _ h'=>h'.elim)
  refine wpAny_bind (wpAny_mono h1' (λ _ s2 h₂=>wpAny_bind (wpAny_mono h₂ (λ f s3 h₃=>?_) λ _ _ h'=>h'.elim)) λ _ _ h'=>h'.elim)
  cases f with
  | next=>exact wpAny_pure (.inl ⟨rfl,h₃⟩)
  | cont=>exact wpAny_pure (.inl ⟨rfl,h₃⟩)
  | brk=>exact wpAny_pure h₃
  | ret v=>exact wpAny_pure h₃
noncomputable def zW (J:aV→aF→Prop) (Φ:AF→aV→aF→Prop):AF→aV→aF→Prop:=λ f l σ=>match f with
 | .next | .cont=>J l σ
 | .brk=>Φ .next l σ
 | .ret v=>Φ (.ret v) l σ
section
variable {c:Cx} {env:Env} {loc:aV} {σ:aF} {Φ:AF→aV→aF→Prop}
noncomputable abbrev zX (c:Cx) (env:Env) (body:List Stmt) (Inv:Nat→aV→aF→Prop) (i:Nat) (Φ:AF→aV→aF→Prop):aV→aF→Prop:=λ l' σ''=>WS c env l' σ'' (execs body env) (zW (Inv (i+1)) Φ)
inductive Kf (c:Cx) (env:Env) (target:Expr) (body:List Stmt) (loc:aV) (Φ:AF→aV→aF→Prop) (a:AV) (σ1:aF):Prop
 | mk (xs:List AV) (σ2:aF) (kp:List (Addr×Tg×AO)) (it:iI c σ1 a target xs σ2 (kp.map λ x:Addr×Tg×AO=>(x.1,x.2.2))) (hk:kp.length≤1) (Inv:Nat→aV→aF→Prop) (h0:Inv 0 loc σ2)
  (hs:∀i x l σ',xs[i]? =some x→Inv i l σ'→WA c env l σ' target x (zX c env body Inv i Φ)) (he:∀l σ',Inv xs.length l σ'→(∀x∈kp,σ' x.1=none)→Φ .next l (kp.foldl (λ σ x=>σ.put x.1 x.2) σ')):Kf c env target body loc Φ a σ1
inductive We (c:Cx) (env:Env) (target:Expr) (body:List Stmt) (loc:aV) (Φ:AF→aV→aF→Prop) (a:AV) (σ1:aF):Prop
 | mk (xs:List AV) (σ2:aF) (it:hW c σ1 a target xs σ2) (Inv:Nat→aV→aF→Prop) (h0:Inv 0 loc σ2)
  (hs:∀i x l σ',xs[i]? =some x→Inv i l σ'→WA c env l σ' target x (zX c env body Inv i Φ)) (he:∀l σ',Inv xs.length l σ'→Φ .next l σ'):We c env target body loc Φ a σ1
inductive Ke (c:Cx) (env:Env) (target:Expr) (body:List Stmt) (loc:aV) (Φ:AF→aV→aF→Prop) (a:AV) (σ1:aF):Prop
 | mk (xs:List AV) (σ2:aF) (l0:Addr) (t0:Tg) (ao:AO) (it:iI c σ1 a target xs σ2 [(l0,ao)]) (Inv:Nat→aV→aF→Prop) (h0:Inv 0 loc σ2)
  (hs:∀i x l σ',xs[i]? =some x→Inv i l σ'→WA c env l σ' target x (zX c env body Inv i Φ)) (he:∀l σ',Inv xs.length l σ'→σ' l0=none→Φ .next l (σ'.put l0 (t0,ao))):Ke c env target body loc Φ a σ1
inductive FJ (c:Cx) (ρ:dC) (fp:List Addr) (env:Env) (h:Heap) (xs:List AV) (Inv:Nat→aV→aF→Prop) (St:Nat→Heap→Prop) (n:Nat) (s':Shared):Prop
 | mk (i:Nat) (l:aV) (σ':aF) (hn:n+i=xs.length) (hI:Inv i l σ') (hst:St i s'.heap) (q:bJ c env l σ' (ρ.over fp s'.heap) s') (e:Ev h s'.heap):FJ c ρ fp env h xs Inv St n s'
theorem Ci {target iter:Expr} {body:List Stmt} {pos:Pos} (h:WE c env loc σ iter (Kf c env target body loc Φ))
  (hs:∀x,foldedSetIterable iter env x=pure x:=by intro _;rfl):WS c env loc σ (exec (.For target iter body [] pos) env) Φ:=λ ρ s q=>by
 refine wpAny_For (hK (h ρ s q) (λ va s1 a σ1 ha hz3 q1 e₁=>?_)) hs
 obtain ⟨xs,σ2,kp,hit,hk1,Inv,h0,hstep,hend⟩:=hz3
 refine wpAny_mono (hit env loc ρ s1 va (λ it s'=>codeAny (MM c) c.A (.forLoop target it body [] env) (λ r s'=>match r with | .ok f=>cY c env ρ s.heap Kh Φ f s' | .error e=>cameBackBy (MM c) c.A env gD e s') s') q1 ha
  λ it s2 fp St hS hSt q2 e₂ hap hσ=>?_) (λ _ _ z=>z) λ _ _ e=>e.elim
 have hnone:∀b∈fp,σ2 b=none:=λ b hb=>by rw[←hσ b];unfold aF.hide;rw[if_pos hb]
 have none_of:∀{i l σ' s'},St i s'.heap→bJ c env l σ' (ρ.over fp s'.heap) s'→∀b∈fp,σ' b=none:=λ {i l σ' s'} hst q' b hb=>by
  cases z:σ' b with
  | none=>rfl
  | some y=>
   obtain ⟨o,ho⟩:=hS.live i s'.heap hst b hb
   have:=(q'.own b y z).2
   unfold dC.over at this
   rw[if_pos hb,ho] at this;cases this
 refine nW (FJ c ρ fp env s.heap xs Inv St) ?_ xs.length
  ⟨0,loc,σ2,by simp,h0,hSt,(q2.hide hap).ext λ b=>(hσ b).symm,e₁.trans e₂⟩
 rintro n s' ⟨i,l,σ',hn,hI,hst,q',e'⟩
 have hn':=none_of hst q'
 cases hx:xs[i]? with
 | none=>
  have:i=xs.length:=by
   have:=List.getElem?_eq_none_iff.mp hx;exact I9 hn this
  subst this
  refine wpAny_mono (hS.fin c.A s' (λ s''=>cY c env ρ s.heap Kh Φ .next s'') q'.base.hand hst λ s'' hg ho k e hkp=>?_) (λ r s'' ⟨hr,z⟩=>by subst hr;exact z) λ _ _ e=>e
  have qf:=(q'.turn hap hn' hg ho k e).unhide hap hn'
  have hkn:∀x∈kp,σ' x.1=none:=λ x hx=>hn' _ (hS.kin (x.1,x.2.2) (List.mem_map.mpr ⟨x,hx,rfl⟩))
  refine ⟨.next,l,_,rfl,hend l _ hI hkn,?_,e'.trans e⟩
  cases kp with
  | nil=>exact qf
  | cons x r=>cases r with
   | nil=>
    have hx:=hap _ (hS.kin (x.1,x.2.2) List.mem_cons_self)
    exact qf.track ⟨hx.1,hx.2.1,hx.2.2.1,hx.2.2.2⟩ (hkp _ List.mem_cons_self)
   | cons y r=>exact absurd hk1 (by simp)
 | some x=>
  refine wpAny_mono (hS.next c.A i x s' (λ v s''=>wpAny (MM c) c.A (assign target env v) (λ _ s2=>wpAny (MM c) c.A (execs body env) (λ f s3=>match f with
    | .next | .cont=>∃m,m<n∧FJ c ρ fp env s.heap xs Inv St m s3
    | .brk=>cY c env ρ s.heap Kh Φ .next s3
    | .ret v=>cY c env ρ s.heap Kh Φ (.ret v) s3) gD s2) gD s'') q'.base.hand hst hx λ v s'' hv hst' hg ho k e=>?_) (λ r s'' ⟨v,hr,z⟩=>by subst hr;exact z) λ _ _ e=>e
  have q'':=q'.turn hap hn' hg ho k e
  refine Gy (hstep i x l _ hx hI _ s'' v q'' hv) (λ _ s2 _ l2 σ2' _ h₂ q2 e₂=>?_)
  refine Gy (h₂ _ s2 q2) (λ f s3 af l3 σ3 hf h₃ q3 e3=>?_)
  have elive:∀a∈fp,∀o,s''.heap.get? a=some o→s3.heap.get? a=some o:=λ a ha o z=>q3.hid a o (by unfold dC.over;rw[if_pos ha];exact z)
  have hst3:St (i+1) s3.heap:=hS.frame _ _ _ hst' (e₂.trans e3) elive
  have eover:ρ.over fp s''.heap=ρ.over fp s3.heap:=funext λ b=>by
   unfold dC.over
   split
   ·rename_i hm
    obtain ⟨o,ho⟩:=hS.live _ _ hst' b hm
    rw[ho,elive b hm o ho]
   ·rfl
  rw[eover] at q3
  have ef:=e'.trans (e.trans (e₂.trans e3))
  have lt:i<xs.length:=(List.getElem?_eq_some_iff.mp hx).1
  cases af with
  | next=>cases hf;exact ⟨n-1,by exact Fb hn lt,i+1,l3,σ3,by exact Fc hn lt,h₃,hst3,q3,ef⟩
  | cont=>cases hf;exact ⟨n-1,by exact Fb hn lt,i+1,l3,σ3,by exact Fc hn lt,h₃,hst3,q3,ef⟩
  | brk=>cases hf;exact ⟨.next,l3,σ3,rfl,h₃,q3.unhide hap (none_of hst3 q3),ef⟩
  | ret av=>
   obtain ⟨v',rfl,hv'⟩:=hf
   exact ⟨.ret av,l3,σ3,⟨v',rfl,hv'⟩,h₃,q3.unhide hap (none_of hst3 q3),ef⟩
theorem lT {target iter:Expr} {body:List Stmt} {pos:Pos} (h:WE c env loc σ iter (We c env target body loc Φ))
  (hs:∀x,foldedSetIterable iter env x=pure x:=by intro _;rfl):WS c env loc σ (exec (.For target iter body [] pos) env) Φ:=
 Ci (WX.mono h λ a σ1 k=>k.casesOn λ xs σ2 h1 Inv h2 h3 h4=>⟨xs,σ2,[],h1,by decide,Inv,h2,h3,λ l σ' h _=>h4 l σ' h⟩) hs
theorem Ic {target iter:Expr} {body:List Stmt} {pos:Pos} (h:WE c env loc σ iter (Ke c env target body loc Φ))
  (hs:∀x,foldedSetIterable iter env x=pure x:=by intro _;rfl):WS c env loc σ (exec (.For target iter body [] pos) env) Φ:=
 Ci (WX.mono h λ a σ1 k=>k.casesOn λ xs σ2 l0 t0 ao h1 Inv h2 h3 h4=>⟨xs,σ2,[(l0,t0,ao)],h1,Nat.le_refl 1,Inv,h2,h3,λ l σ' h hn=>h4 l σ' h (hn _ List.mem_cons_self)⟩) hs
noncomputable abbrev CS (Inv:Nat→aV→aF→Prop) (n:Nat):aV→aF→Prop:=λ l2 σ2=>∃m,m<n∧Inv m l2 σ2
inductive WJ (c:Cx) (ρ:dC) (env:Env) (h:Heap) (Inv:Nat→aV→aF→Prop) (n:Nat) (s':Shared):Prop
 | mk (l:aV) (σ':aF) (hI:Inv n l σ') (q:bJ c env l σ' ρ s') (e:Ev h s'.heap):WJ c ρ env h Inv n s'
theorem jS {test:Expr} {body:List Stmt} {pos:Pos} (Inv:Nat→aV→aF→Prop) (n0:Nat) (h0:Inv n0 loc σ)
  (h:∀n l σ',Inv n l σ'→WB c env l σ' test λ b σ''=>if b then WS c env l σ'' (execs body env) (zW (CS Inv n) Φ) else Φ .next l σ''):
  WS c env loc σ (exec (.While test body [] pos) env) Φ:=λ ρ s q=>by
 refine wpAny_While ?_
 refine codeAny_whileLoop (WJ c ρ env s.heap Inv) ?_ n0 ⟨loc,σ,h0,q,Ev.refl _⟩
 rintro n s' ⟨l,σ',hI,q',e'⟩
 refine hK (h n l σ' hI ρ s' q') (λ b s1 b' σ1 hb h₁ q1 e₁=>?_)
 subst hb
 cases b with
 | false=>exact wpAny_execs_nil ⟨.next,l,σ1,rfl,h₁,q1,e'.trans e₁⟩
 | true=>
  refine Gy (h₁ ρ s1 q1) (λ f s2 af l2 σ2 hf h₂ q2 e₂=>?_)
  have ef:=e'.trans (e₁.trans e₂)
  cases af with
  | next=>cases hf;obtain ⟨m,hm,hI'⟩:=h₂;exact ⟨m,hm,l2,σ2,hI',q2,ef⟩
  | cont=>cases hf;obtain ⟨m,hm,hI'⟩:=h₂;exact ⟨m,hm,l2,σ2,hI',q2,ef⟩
  | brk=>cases hf;exact ⟨.next,l2,σ2,rfl,h₂,q2,ef⟩
  | ret av=>
   obtain ⟨v',rfl,hv'⟩:=hf
   exact ⟨.ret av,l2,σ2,⟨v',rfl,hv'⟩,h₂,q2,ef⟩
end
section
variable {c:Cx} {env:Env} {loc:aV} {σ σ':aF} {ρ:dC} {s s':Shared} {H:List Addr}
theorem Sat0.over (x:Sat0 c σ ρ s) (h:∀a∈H,σ a=none):Sat0 c σ (ρ.over H s.heap) s where
 base:=x.base
 keep:=x.keep
 obj:=x.obj
 own:=λ a y e=>⟨(x.own a y e).1,by
  unfold dC.over
  rw[if_neg λ z=>by rw[h a z] at e;cases e];exact (x.own a y e).2⟩
 hid:=λ a o e=>by
  unfold dC.over at e
  split at e
  ·exact e
  ·exact x.hid a o e
 gens:=x.gens
 os:=x.os
theorem Sat0.unover {h:Heap} (x:Sat0 c σ (ρ.over H h) s) (hr:∀a∈H,ρ a=none):Sat0 c σ ρ s where
 base:=x.base
 keep:=x.keep
 obj:=x.obj
 own:=λ a y e=>⟨(x.own a y e).1,by
  have:=(x.own a y e).2
  unfold dC.over at this
  split at this
  ·rename_i m;exact hr a m
  ·exact this⟩
 hid:=λ a o e=>by
  refine x.hid a o ?_
  unfold dC.over
  rw[if_neg λ z=>by rw[hr a z] at e;cases e];exact e
 gens:=x.gens
 os:=x.os
noncomputable def cD (env:Env):List Addr:=env.locals::env.cells.map (·.2)
theorem cI {env:Env} {a:Addr}:a∈cD env↔a=env.locals∨∃n,(n,a)∈env.cells:=by
 unfold cD
 rw[List.mem_cons,List.mem_map]
 constructor
 ·rintro (h | ⟨p,hp,rfl⟩)
  ·exact .inl h
  ·exact .inr ⟨p.1,hp⟩
 ·rintro (h | ⟨n,hn⟩)
  ·exact .inl h
  ·exact .inr ⟨(n,a),hn,rfl⟩
theorem bJ.frame_live (x:bJ c env loc σ ρ s):∀a∈cD env,∃o,s.heap.get? a=some o:=λ a ha=>by
 rcases cI.mp ha with rfl | ⟨n,hn⟩
 ·obtain ⟨m,⟨o,_,_,ho,_⟩,_⟩:=x.fr.locs;exact ⟨o,ho⟩
 ·obtain ⟨v,⟨o,ho,_⟩,_⟩:=x.fr.cell n a hn;exact ⟨o,ho⟩
theorem bJ.frame_own (x:bJ c env loc σ ρ s):∀a∈cD env,c.h₀.get? a=none∧σ a=none∧ρ a=none:=λ a ha=>by
 rcases cI.mp ha with rfl | ⟨n,hn⟩
 ·exact x.fr.lown
 ·have:=x.fr.cown n a hn;exact ⟨this.1,this.2.1,this.2.2.1⟩
theorem bJ.away (x:bJ c env loc σ ρ s):Sat0 c σ (ρ.over (cD env) s.heap) s:=x.toSat0.over λ a h=>(x.frame_own a h).2.1
theorem bJ.back (x:bJ c env loc σ ρ s) (y:Sat0 c σ' (ρ.over (cD env) s.heap) s') (e:Ev s.heap s'.heap):bJ c env loc σ' ρ s':=by
 have hr:=λ a h=>(x.frame_own a h).2.2
 have live:∀a∈cD env,∀o,s.heap.get? a=some o→s'.heap.get? a=some o:=λ a ha o ho=>y.hid a o (by unfold dC.over;rw[if_pos ha];exact ho)
 have notσ:∀a∈cD env,σ' a=none:=λ a ha=>by
  cases z:σ' a with
  | none=>rfl
  | some w=>
   obtain ⟨o,ho⟩:=x.frame_live a ha
   have:=(y.own a w z).2
   unfold dC.over at this
   rw[if_pos ha,ho] at this;cases this
 exact {y.unover hr with
  fr:={
   kind:=x.fr.kind,glob:=x.fr.glob,bu:=x.fr.bu,capart:=x.fr.capart,above:=x.fr.above
   locs:=let ⟨m,⟨o,es,ep,ho,r⟩,q⟩:=x.fr.locs;⟨m,⟨o,es,ep,live _ (cI.mpr (.inl rfl)) o ho,r⟩,λ n hn=>(q n hn).ev e⟩
   cell:=λ n a m=>let ⟨v,⟨o,ho,r⟩,q⟩:=x.fr.cell n a m;⟨v,⟨o,live _ (cI.mpr (.inr ⟨n,m⟩)) o ho,r⟩,q.ev e⟩
   lown:=⟨x.fr.lown.1,notσ _ (cI.mpr (.inl rfl)),x.fr.lown.2.2⟩
   cown:=λ n a m=>⟨(x.fr.cown n a m).1,notσ _ (cI.mpr (.inr ⟨n,m⟩)),(x.fr.cown n a m).2.2⟩} }
end
inductive Gw (c:Cx) (ρ:dC) (h:Heap) (Φ:AV→aF→Prop) (v:Value) (s':Shared):Prop
 | mk (av:AV) (σ':aF) (hr:bH s'.heap av v) (hp:Φ av σ') (q:Sat0 c σ' ρ s'∧Ev h s'.heap):Gw c ρ h Φ v s'
noncomputable def Ln (c:Cx) (ρ:dC) (h:Heap) (Φ:AV→aF→Prop) (r:Result) (s':Shared):Prop:=match r with
 | .ok (.ret v)=>Gw c ρ h Φ v s'
 | _=>False
noncomputable def gG (c:Cx) (σ:aF) (f:Value) (as:List AV) (Φ:AV→aF→Prop):Prop:=
 ∀ρ s vs,Sat0 c σ ρ s→aO s.heap as vs→codeAny (MM c) c.A (.call f ⟨vs,[]⟩) (Ln c ρ s.heap Φ) s
theorem J5 {c:Cx} {env:Env} {loc:aV} {σ:aF} {f:Value} {as:List AV} {Φ:AV→aF→Prop} (h:gG c σ f as Φ):WC c env loc σ f as Φ:=λ ρ s vs q hv=>
 wpAny_call (codeAny_mono (h _ s vs q.away hv) λ r s' y=>by
  match r,y with
  | .ok (.ret v),⟨av,σ',ha,h₁,y,e⟩=>exact ⟨av,σ',ha,h₁,q.back y e,e⟩
  | .ok .next,y=>exact y.elim
  | .ok .brk,y=>exact y.elim
  | .ok .cont,y=>exact y.elim
  | .error e,y=>exact y.elim)
noncomputable def iR:List (Str×AV)→aV→aV
 | [],m=>m
 | (n,v)::r,m=>iR r (m.put n v)
theorem sK {h:Heap} {k:Str→Option NameKind} {y:Str} (hy:k y=some .local):∀{ns:List Str} {as:List AV} {vs:List Value} {l:aV} {m:Str→Option Value},
  aO h as vs→fE h (l y) (m y)→fE h (iR (ns.zip as) l y) (bindL k (ns.zip vs) m y)
 | [],_,_,_,_,_,q=>q
 | n::ns,[],vs,_,_,hv,q=>by rw[hv.nil_inv];exact q
 | n::ns,a::as,vs,l,m,hv,q=>by
  obtain ⟨v,vr,rfl,h2,h3⟩:=hv.cons_inv
  show fE h (iR (ns.zip as) (l.put n a) y) (bindL k (ns.zip vr) _ y)
  refine sK hy h3 ?_
  by_cases e:k n=some .local
  ·rw[if_pos e];exact aV.put_opt h2 q
  ·rw[if_neg e]
   unfold aV.put
   rw[if_neg (λ z:y=n=>e (z▸hy))];exact q
theorem vB {h:Heap} {k:Str→Option NameKind} {y:Str} (hy:k y≠some .local):∀{ns:List Str} {as:List AV} {vs:List Value} {l:aV} {m:Str→Option Value},
  aO h as vs→fE h (l y) (m y)→fE h (iR (ns.zip as) l y) (bindC k (ns.zip vs) m y)
 | [],_,_,_,_,_,q=>q
 | n::ns,[],vs,_,_,hv,q=>by rw[hv.nil_inv];exact q
 | n::ns,a::as,vs,l,m,hv,q=>by
  obtain ⟨v,vr,rfl,h2,h3⟩:=hv.cons_inv
  show fE h (iR (ns.zip as) (l.put n a) y) (bindC k (ns.zip vr) _ y)
  refine vB hy h3 ?_
  by_cases e:k n=some .local
  ·rw[if_pos e]
   unfold aV.put
   rw[if_neg (λ z:y=n=>hy (z▸e))];exact q
  ·rw[if_neg e];exact aV.put_opt h2 q
noncomputable def Cx.deep (c:Cx) (env:Env):Cx:={c with A:=c.A.deeper env,n:=c.n-1}
theorem xA.deeper {c:Cx} (b:xA c) (h:1≤c.n) (env:Env):xA (c.deep env) where
 kx:=b.kx
 lim:=b.lim
 glob:=b.glob
 hand:=b.hand
 deep:=by have:=b.deep;show c.A.depth+1+3*(c.n-1)<_;exact Jb h this
 room:=by have:=b.room;show c.A.units+3+12*(c.n-1)+20<_;exact Rb h this
theorem Sat0.deep {c:Cx} {σ:aF} {ρ:dC} {s:Shared} (x:Sat0 c σ ρ s) (h:1≤c.n) (env:Env):Sat0 (c.deep env) σ ρ s:=
 ⟨x.base.deeper h env,x.keep,x.obj,x.own,x.hid,x.gens,x.os⟩
theorem Sat0.shallow {c:Cx} {σ:aF} {ρ:dC} {s:Shared} {env:Env} (x:Sat0 (c.deep env) σ ρ s) (b:xA c):Sat0 c σ ρ s:=
 ⟨b,x.keep,x.obj,x.own,x.hid,x.gens,x.os⟩
noncomputable def J7:AF→AV→Prop
 | .ret a,b=>a=b
 | _,b=>b= .none
noncomputable abbrev Gr (Φ:AV→aF→Prop):AF→aV→aF→Prop:=λ fl _ σ'=>∃av,J7 fl av∧Φ av σ'
noncomputable def bB (fd:FuncData) (L f:Addr):Env:=callEnvC fd L f
theorem Ij {c:Cx} {σ:aF} {f:Addr} {as:List AV} {Φ:AV→aF→Prop} {oc:Value} {od:Option Addr} {osl:Array (Option Value)} {fd:FuncData} {body:List Stmt} {ns:List Str}
  (ho:(KK c.w).lookup f=some ⟨oc,od,.func fd,osl⟩) (hcd:codeIn (KK c.w) fd.code fd.qualname=true) (hn:1≤c.n)
  (hbody:fd.body= .stmts body) (hclo:fd.closure=[]) (hglob:fd.globals=mainGlobals) (hbu:fd.builtins=builtinsNs)
  (hbind:∀vs:List Value,vs.length=as.length→bindArgs fd ⟨vs,[]⟩=pure (ns.zip vs))
  (hkind:∀x∈ns,fd.scope.names.lookup x=some .local∨(fd.scope.names.lookup x=some .cell∧∀L:Nat,((cellsFrom (L+1) fd.scope.names []).lookup x).isSome=true))
  (hcells:∀L:Nat,∀p∈cellsFrom (L+1) fd.scope.names [],(cellsFrom (L+1) fd.scope.names []).lookup p.1=some p.2∧fd.scope.names.lookup p.1≠some .local)
  (h:∀L,WS (c.deep (bB fd L f)) (bB fd L f) (iR (ns.zip as) λ _=>none) σ (execs body (bB fd L f)) (Gr Φ))
  (hco:fd.scope.isCoroutine=false:=by rfl) (hgen:fd.scope.isGenerator=false:=by rfl) (hk:fd.scope.kind= .function:=by rfl):
  gG c σ (.ref f) as Φ:=λ ρ s vs q hv=>by
 have X:=q.base.kx.keeps q.keep
 have hd:c.A.depth<recursionLimit:=by have:=q.base.deep;exact Q3 this
 refine codeAny_call_cells hd (X _ _ ho) rfl (q.base.lim.keeps q.keep) (codeRec_of X hcd) hbody (hbind vs hv.length) hclo (λ x hx=>?_) (λ s1 x=>?_) hco hgen hk
 ·have:=hkind x.1 (List.of_mem_zip (a:=x.1) (b:=x.2) hx).1
  rcases this with h1 | ⟨h1,h2⟩
  ·exact .inl h1
  ·exact .inr ⟨h1,h2 _⟩
 ·obtain ⟨⟨⟨h',tk,rfl⟩,hns,hkeep,hfresh⟩,hcell,hap,habove⟩:=x
  dsimp only at hns hkeep hfresh hcell hap habove
  have ev:Ev s.heap h':=Ev.keeps hkeep
  have q0:Sat0 c σ ρ {s with heap:=h',toks:=tk}:=q.change (λ _=>False) rfl rfl (λ b o _ z=>hkeep b o z) ev (λ _ z=>z.elim)
  have freshc:∀x a,(x,a)∈(callEnvC fd s.heap.objs.size f).cells→s.heap.objs.size≤a:=λ x a m=>Nat.le_of_lt (habove x a m)
  have q1:bJ (c.deep (bB fd s.heap.objs.size f)) (bB fd s.heap.objs.size f) (iR (ns.zip as) λ _=>none) σ ρ {s with heap:=h',toks:=tk}:=
   {q0.deep hn _ with
    fr:={
     kind:=hk,glob:=hglob,bu:=hbu
     locs:=⟨_,hns,λ y hy=>(sK hy hv (show fE s.heap none none from rfl)).ev ev⟩
     lown:=let z:=q.fresh (Nat.le_refl _);⟨z.2.2,z.1,z.2.1⟩
     cell:=λ x a m=>by
      obtain ⟨h1,h2⟩:=hcells _ (x,a) m
      exact ⟨_,hcell x a h1,(vB h2 hv (show fE s.heap none none from rfl)).ev ev⟩
     cown:=λ x a m=>let z:=q.fresh (freshc x a m);⟨z.2.2,z.1,z.2.1,Nat.ne_of_gt (habove x a m)⟩
     capart:=hap
     above:=λ b o e=>Heap.lt_size (q.keep b o e)} }
  refine Gy (h _ ρ _ q1) (λ fl s2 af l σ2 hf hz4 q2 e2=>?_)
  obtain ⟨av,hr,h₂⟩:=hz4
  have y:=q2.toSat0.shallow q.base
  cases af with
  | ret a=>
   obtain ⟨v,rfl,hv'⟩:=hf
   cases hr
   exact ⟨_,σ2,hv',h₂,y,ev.trans e2⟩
  | next=>cases hf;cases hr;exact ⟨_,σ2,by simp,h₂,y,ev.trans e2⟩
  | brk=>cases hf;cases hr;exact ⟨_,σ2,by simp,h₂,y,ev.trans e2⟩
  | cont=>cases hf;cases hr;exact ⟨_,σ2,by simp,h₂,y,ev.trans e2⟩
noncomputable def fA (scope:Scope) (loc:aV):aV:=λ y=>if scope.names.lookup y=some .local then none else loc y
noncomputable def Gv (c:Cx) (cenv:Env) (l:aV) (σ:aF) (ifs:List Expr) (elt:Expr) (Ψ:Option AV→aF→Prop):Prop:=match ifs with
 | []=>WE c cenv l σ elt λ v σ'=>Ψ (some v) σ'
 | [t]=>WB c cenv l σ t λ b σ'=>if b then WE c cenv l σ' elt (λ v σ''=>Ψ (some v) σ'') else Ψ none σ'
 | _=>False
noncomputable abbrev Lk (Inv:Nat→List AV→aF→Prop) (i:Nat) (acc:List AV):Option AV→aF→Prop:=λ r σ''=>match r with | some v=>Inv (i+1) (acc++[v]) σ'' | none=>Inv (i+1) acc σ''
structure bY (env:Env) (scope:Scope) (x:Str) (cl:List (Str×Addr)):Prop where
 kind:scope.kind= .function
 cell:∀y∈scope.names,y.2≠ .cell
 x:scope.names.lookup x=some .local
 names:∀y∈scope.names,y.2= .local→scope.names.lookup y.1=some .local
 clos:closureFor scope env=pure cl
 inn:∀p∈cl,p∈env.cells∧scope.names.lookup p.1≠some .local
 apart:cl.Pairwise λ a b=>a.2≠b.2
theorem gM {env:Env}:∀{names:List (Str×NameKind)} {x:Str},
  (names.map λ (n,k)=>if (k==NameKind.free&&env.scope.kind== .function&&env.kindOf n==some .cell) then (n,NameKind.cell) else (n,k)).lookup x=some .local→names.lookup x=some .local
 | [],_,h=>by simp at h
 | (n,k)::r,x,h=>by
  have ih:=@gM env r x
  rw[List.map_cons] at h
  by_cases hc:(k==NameKind.free&&env.scope.kind== .function&&env.kindOf n==some .cell)=true
  ·simp only[hc,if_true] at h
   rw[List.lookup_cons] at h⊢
   cases hx:x==n with
   | true=>rw[hx] at h;cases h
   | false=>rw[hx] at h;exact ih h
  ·have hc':(k==NameKind.free&&env.scope.kind== .function&&env.kindOf n==some .cell)=false:=by simpa using hc
   simp only[hc',Bool.false_eq_true,if_false] at h
   rw[List.lookup_cons] at h⊢
   cases hx:x==n with
   | true=>rw[hx] at h;exact h
   | false=>rw[hx] at h;exact ih h
noncomputable def dR (env:Env) (cl:List (Str×Addr)) (fp:List Addr) (D:Addr):List Addr:=fp++D::(cD env).filter λ a=> !(cl.map (·.2)).contains a
section
variable {c:Cx} {env:Env} {loc:aV} {σ σ':aF} {ρ:dC} {s s':Shared} {scope:Scope} {x:Str} {cl:List (Str×Addr)}
theorem dO {fp:List Addr} {D a:Addr}:a∈dR env cl fp D↔a∈fp∨a=D∨(a∈cD env∧∀n,(n,a)∉cl):=by
 unfold dR
 rw[List.mem_append,List.mem_cons,List.mem_filter]
 have:(!(cl.map (·.2)).contains a)=true↔∀n,(n,a)∉cl:=by
  rw[Bool.not_eq_true',←Bool.not_eq_true,List.contains_iff_mem,List.mem_map]
  constructor
  ·intro h n m;exact h ⟨(n,a),m,rfl⟩
  ·rintro h ⟨⟨n,b⟩,m,rfl⟩;exact h n m
 rw[this]
theorem bJ.enterComp (ok:bY env scope x cl) (q:bJ c env loc σ ρ s) {fp:List Addr} {D C:Addr} (hap:kW c env ρ fp) (hfl:∀a∈fp,a≠C) (hσ:∀b∈fp,σ b=none)
  (hD:c.h₀.get? D=none∧σ D=none∧ρ D=none∧D≠env.locals∧∀n,(n,D)∉env.cells) (hC:c.h₀.get? C=none∧σ C=none∧ρ C=none∧C≠env.locals∧∀n,(n,C)∉env.cells)
  (hDC:D≠C) (hn:s.heap.Ns C λ _=>none) (habove:∀b o,c.h₀.get? b=some o→b<C):
  bJ c (compEnvC scope cl C env) (fA scope loc) σ (ρ.over (dR env cl fp D) s.heap) s∧kW c (compEnvC scope cl C env) ρ (dR env cl fp D)∧∀b∈dR env cl fp D,σ b=none:=by
 have hid:∀b∈dR env cl fp D,c.h₀.get? b=none∧σ b=none∧ρ b=none∧b≠C∧∀n,(n,b)∉cl:=λ b hb=>by
  rcases dO.mp hb with h | rfl | ⟨h,h'⟩
  ·have:=hap b h;exact ⟨this.1,hσ b h,this.2.1,hfl b h,λ n m=>this.2.2.2 n (ok.inn _ m).1⟩
  ·exact ⟨hD.1,hD.2.1,hD.2.2.1,hDC,λ n m=>hD.2.2.2.2 n (ok.inn _ m).1⟩
  ·have:=q.frame_own b h
   exact ⟨this.1,this.2.1,this.2.2,λ z=>by
    subst z
    rcases cI.mp h with rfl | ⟨n,m⟩
    ·exact hC.2.2.2.1 rfl
    ·exact hC.2.2.2.2 n m,h'⟩
 refine ⟨{q.toSat0.over (λ a h=>(hid a h).2.1) with fr:=?_},λ b hb=>let z:=hid b hb;⟨z.1,z.2.2.1,z.2.2.2.1,z.2.2.2.2⟩,λ b hb=>(hid b hb).2.1⟩
 exact {
  kind:=ok.kind
  glob:=q.fr.glob
  bu:=q.fr.bu
  locs:=⟨_,hn,λ y hy=>by
   have:scope.names.lookup y=some .local:=gM hy
   unfold fA;rw[if_pos this];rfl⟩
  lown:=⟨hC.1,hC.2.1,by
   show (ρ.over (dR env cl fp D) s.heap) C=none
   unfold dC.over
   rw[if_neg (λ z=>(hid _ z).2.2.2.1 rfl)];exact hC.2.2.1⟩
  cell:=λ n a m=>by
   obtain ⟨v,h1,h2⟩:=q.fr.cell n a (ok.inn _ m).1
   refine ⟨v,h1,?_⟩
   unfold fA;rw[if_neg (ok.inn _ m).2];exact h2
  cown:=λ n a m=>by
   have:=q.fr.cown n a (ok.inn _ m).1
   exact ⟨this.1,this.2.1,by unfold dC.over;rw[if_neg (λ z=>(hid _ z).2.2.2.2 n m)];exact this.2.2.1,λ z=>by (subst z;exact hC.2.2.2.2 n (ok.inn _ m).1)⟩
  capart:=ok.apart
  above:=habove}
theorem bJ.leaveComp (ok:bY env scope x cl) (q:bJ c env loc σ ρ s) {fp:List Addr} {D C:Addr} {lv:Option AV}
  (hfr:∀a∈cD env,(∀n,(n,a)∉cl)→∀o,s.heap.get? a=some o→s'.heap.get? a=some o)
  (y:bJ c (compEnvC scope cl C env) (λ z=>if z=x then lv else fA scope loc z) σ' (ρ.over (dR env cl fp D) s'.heap) s')
  (hρ:∀a∈dR env cl fp D,ρ a=none) (e:Ev s.heap s'.heap):bJ c env loc σ' ρ s':=by
 have notσ:∀a∈cD env,(∀n,(n,a)∉cl)→σ' a=none:=λ a ha hn=>by
  cases z:σ' a with
  | none=>rfl
  | some w=>
   obtain ⟨o,ho⟩:=q.frame_live a ha
   have:=(y.own a w z).2
   unfold dC.over at this
   rw[if_pos (dO.mpr (.inr (.inr ⟨ha,hn⟩))),hfr a ha hn o ho] at this;cases this
 have hL:∀n,(n,env.locals)∉cl:=λ n m=>(q.fr.cown n _ (ok.inn _ m).1).2.2.2 rfl
 exact {y.toSat0.unover hρ with
  fr:={
   kind:=q.fr.kind,glob:=q.fr.glob,bu:=q.fr.bu,capart:=q.fr.capart,above:=q.fr.above
   locs:=let ⟨m,⟨o,es,ep,ho,r⟩,z⟩:=q.fr.locs;⟨m,⟨o,es,ep,hfr _ (cI.mpr (.inl rfl)) hL o ho,r⟩,λ n hn=>(z n hn).ev e⟩
   lown:=⟨q.fr.lown.1,notσ _ (cI.mpr (.inl rfl)) hL,q.fr.lown.2.2⟩
   cell:=λ n a m=>by
    by_cases hm:∀k,(k,a)∉cl
    ·obtain ⟨v,⟨o,ho,r⟩,z⟩:=q.fr.cell n a m
     exact ⟨v,⟨o,hfr a (cI.mpr (.inr ⟨n,m⟩)) hm o ho,r⟩,z.ev e⟩
    ·obtain ⟨k,hk⟩:∃k,(k,a)∈cl:=Classical.byContradiction λ w=>hm λ k hk=>w ⟨k,hk⟩
     obtain rfl:n=k:=name_of_addr q.fr.capart m (ok.inn _ hk).1
     obtain ⟨v,h1,h2⟩:=y.fr.cell n a hk
     refine ⟨v,h1,?_⟩
     have hne:n≠x:=λ w=>(ok.inn _ hk).2 (w▸ok.x)
     have hnl:=(ok.inn _ hk).2
     unfold fA at h2
     rw[if_neg hne,if_neg hnl] at h2
     exact h2
   cown:=λ n a m=>by
    by_cases hm:∀k,(k,a)∉cl
    ·exact ⟨(q.fr.cown n a m).1,notσ _ (cI.mpr (.inr ⟨n,m⟩)) hm,(q.fr.cown n a m).2.2⟩
    ·obtain ⟨k,hk⟩:∃k,(k,a)∈cl:=Classical.byContradiction λ w=>hm λ k hk=>w ⟨k,hk⟩
     exact ⟨(q.fr.cown n a m).1,(y.fr.cown k a hk).2.1,(q.fr.cown n a m).2.2⟩} }
theorem aV.put_if {l:aV} {x:Str} {lv:Option AV} {v:AV}:aV.put (λ z=>if z=x then lv else l z) x v=λ z=>if z=x then some v else l z:=funext λ z=>by
 unfold aV.put
 by_cases h:z=x<;>simp[h]
theorem bJ.poke (x:bJ c env loc σ ρ s) {C:Addr} (hC:c.h₀.get? C=none∧σ C=none∧ρ C=none∧C≠env.locals∧∀n,(n,C)∉env.cells) (hg:s'.gens=s.gens) (ho:s'.os=s.os)
  (k:Heap.ExtBut C s.heap s'.heap) (e:Ev s.heap s'.heap):bJ c env loc σ ρ s':=
 {x.toSat0.change (· =C) hg ho (λ b o p z=>k b o p z) e (λ b p=>by subst p;exact ⟨hC.1,hC.2.1,hC.2.2.1⟩) with
  fr:=x.fr.change (· =C) (λ b o p z=>k b o p z) e λ b p=>by subst p;exact ⟨hC.2.2.2.1,hC.2.2.2.2⟩}
theorem mP {cenv:Env} {l:aV} {H:List Addr} {h:Heap} (q:bJ c cenv l σ (ρ.over H h) s) {b:Addr} {o:Obj} (hb:b∈H) (ho:h.get? b=some o):σ b=none:=by
 cases z:σ b with
 | none=>rfl
 | some y=>
  have:=(q.own b y z).2
  unfold dC.over at this
  rw[if_pos hb,ho] at this;cases this
theorem Bw {cenv:Env} {l:aV} {H:List Addr} {h:Heap} (hl:∀a∈H,∃o,h.get? a=some o) (q:bJ c cenv l σ (ρ.over H h) s):ρ.over H h=ρ.over H s.heap:=funext λ b=>by
 unfold dC.over
 split
 ·rename_i hm
  obtain ⟨o,ho⟩:=hl b hm
  rw[ho,q.hid b o (by unfold dC.over;rw[if_pos hm];exact ho)]
 ·rfl
inductive zZ (c:Cx) (cenv:Env) (clo:aV) (x:Str) (ρ:dC) (H fp:List Addr) (D:Addr) (xs:List AV) (St:Nat→Heap→Prop) (Inv:Nat→List AV→aF→Prop) (h:Heap) (k:Nat) (s':Shared):Prop
 | mk (i:Nat) (acc:List AV) (σ':aF) (lv:Option AV) (items:Array Value) (n:Nat) (h1:k+i=xs.length) (h2:Inv i acc σ') (h3:St i s'.heap) (h4:bJ c cenv (λ z=>if z=x then lv else clo z) σ' (ρ.over H s'.heap) s')
  (h5:s'.heap.get? D=some (listOf items n)) (h6:aO s'.heap acc items.toList) (h7:acc.length≤i) (h8:Ev h s'.heap) (h9:∀a∈H,a∉fp→a≠D→∀o,h.get? a=some o→s'.heap.get? a=some o) (h10:∀a∈H,∃o,s'.heap.get? a=some o):zZ c cenv clo x ρ H fp D xs St Inv h k s'
theorem Dk {cenv:Env} {clo:aV} {elt iter:Expr} {px pos:Pos} {ifs:List Expr} {it:Value} {fp H:List Addr} {xs:List AV} {St:Nat→Heap→Prop} {D:Addr} {σ2:aF} {lv0:Option AV} {kp:List (Addr×AO)}
  (hS:Cm c it (.Name x px) fp xs St kp) (hz:xs.length≤100000) (hst:St 0 s.heap) (hkx:cenv.kindOf x=some .local) (hcx:∀a,(x,a)∉cenv.cells)
  (q:bJ c cenv (λ z=>if z=x then lv0 else clo z) σ2 (ρ.over H s.heap) s) (hap:kW c cenv ρ H)
  (hfp:∀a∈fp,a∈H) (hDH:D∈H) (hDf:D∉fp) (hlive:∀a∈H,∃o,s.heap.get? a=some o) (hDl:s.heap.get? D=some (listOf #[] 0))
  (Inv:Nat→List AV→aF→Prop) (h0:Inv 0 [] σ2)
  (hstep:∀i y acc σ',xs[i]? =some y→Inv i acc σ'→Gv c cenv (λ z=>if z=x then some y else clo z) σ' ifs elt (Lk Inv i acc))
  {R:Result→Shared→Prop}
  (hR:∀s' acc σ' lv items n,Inv xs.length acc σ'→acc.length≤xs.length→bJ c cenv (λ z=>if z=x then lv else clo z) σ' (ρ.over H s'.heap) s'→s'.heap.get? D=some (listOf items n)→aO s'.heap acc items.toList→
   Ev s.heap s'.heap→(∀a∈H,a∉fp→a≠D→∀o,s.heap.get? a=some o→s'.heap.get? a=some o)→(∀x∈kp,xC c.prog c.w s'.heap x.1 x.2)→R (.ok .next) s'):
  codeAny (MM c) c.A (.compLoop (.ListComp elt [⟨.Name x px,iter,ifs,0⟩] scope pos) 0 it (.ref D) cenv) R s:=by
 refine codeAny_compLoop_tests (zZ c cenv clo x ρ H fp D xs St Inv s.heap)
  ?_ xs.length ⟨0,[],σ2,lv0,#[],0,by simp,h0,hst,q,hDl,.nil,Nat.le_refl _,Ev.refl _,λ _ _ _ _ _ e=>e,hlive⟩ (λ _=>rfl)
 rintro k s' ⟨i,acc,σ',lv,items,n,hk,hI,hst',q',hD',hv',hl',e',hkeep,hlive'⟩
 have hn':∀b∈H,σ' b=none:=λ b hb=>let ⟨o,ho⟩:=hlive' b hb;mP q' hb ho
 cases hx:xs[i]? with
 | none=>
  have:i=xs.length:=by
   have:=List.getElem?_eq_none_iff.mp hx
   exact I9 hk this
  subst this
  refine wpAny_mono (hS.fin c.A s' (λ s''=>R (.ok .next) s'') q'.base.hand hst' λ s'' hg ho k e hkp=>?_) (λ r s'' ⟨hr,z⟩=>by subst hr;exact z) λ _ _ e=>e.elim
  have q'':=q'.turn hap hn' hg ho (λ b o hb z=>k b o (λ w=>hb (hfp b w)) z) e
  exact hR s'' acc σ' lv items n hI hl' q'' (k D _ hDf hD') (hv'.ev e) (e'.trans e) (λ a ha hf hd o z=>k a o hf (hkeep a ha hf hd o z)) hkp
 | some y=>
  have lt:i<xs.length:=(List.getElem?_eq_some_iff.mp hx).1
  let Out (ok:Bool) (s3:Shared):Prop:=
   if ok=true then wpAny (MM c) c.A (eval elt cenv) (λ v s4=>wpAny (MM c) c.A (call (.builtin "list.append") [.ref D,v]) (λ _ s5=>∃m,m<k∧zZ c cenv clo x ρ H fp D xs St Inv s.heap m s5) gD s4) gD s3
   else ∃m,m<k∧zZ c cenv clo x ρ H fp D xs St Inv s.heap m s3
  have turn:∀v s1,bH s1.heap y v→St (i+1) s1.heap→s1.gens=s'.gens→s1.os=s'.os→(∀b o,b∉fp→s'.heap.get? b=some o→s1.heap.get? b=some o)→Ev s'.heap s1.heap→
    wpAny (MM c) c.A (assign (.Name x px) cenv v) (λ _ s2=>wpAny (MM c) c.A (forIn ifs true λ t r=>if r=true then do let ok ←PySem.isTrue t cenv (eval t cenv);pure (ForInStep.yield ok) else pure (ForInStep.yield r)) Out gD s2) gD s1:=by
   intro v s1 hv1 hst1 hg1 ho1 k1 e1
   have q1:=q'.turn hap hn' hg1 ho1 (λ b o hb z=>k1 b o (λ w=>hb (hfp b w)) z) e1
   have hD1:=k1 D _ hDf hD'
   have hlive1:∀a∈H,∃o,s1.heap.get? a=some o:=λ a ha=>by
    by_cases hf:a∈fp
    ·exact hS.live _ _ hst1 a hf
    ·obtain ⟨o,ho⟩:=hlive' a ha;exact ⟨o,k1 a o hf ho⟩
   have hkeep1:∀a∈H,a∉fp→a≠D→∀o,s.heap.get? a=some o→s1.heap.get? a=some o:=λ a ha hf hd o z=>k1 a o hf (hkeep a ha hf hd o z)
   have back:∀(s5:Shared) (acc':List AV) (σ5:aF) (items':Array Value) (n':Nat),Inv (i+1) acc' σ5→acc'.length≤i+1→bJ c cenv (λ z=>if z=x then some y else clo z) σ5 (ρ.over H s5.heap) s5→
     (∀a∈H,a≠D→∀o,s1.heap.get? a=some o→s5.heap.get? a=some o)→s5.heap.get? D=some (listOf items' n')→aO s5.heap acc' items'.toList→Ev s1.heap s5.heap→
     ∃m,m<k∧zZ c cenv clo x ρ H fp D xs St Inv s.heap m s5:=λ s5 acc' σ5 items' n' h1 h2 h3 h4 h5 h6 h7=>by
    refine ⟨k-1,by exact Fb hk lt,i+1,acc',σ5,some y,items',n',by exact Fc hk lt,h1,hS.frame _ _ _ hst1 h7 (λ a ha=>h4 a (hfp a ha) (λ w=>hDf (w▸ha))),h3,h5,h6,h2,e'.trans (e1.trans h7),λ a ha hf hd o z=>h4 a ha hd o (hkeep1 a ha hf hd o z),λ a ha=>?_⟩
    by_cases hd:a=D
    ·subst hd;exact ⟨_,h5⟩
    ·obtain ⟨o,ho⟩:=hlive1 a ha;exact ⟨o,h4 a ha hd o ho⟩
   have elem:∀(s3:Shared) (σ3:aF),bJ c cenv (λ z=>if z=x then some y else clo z) σ3 (ρ.over H s1.heap) s3→Ev s1.heap s3.heap→
     WE c cenv (λ z=>if z=x then some y else clo z) σ3 elt (λ v σ''=>Inv (i+1) (acc++[v]) σ'')→Out true s3:=λ s3 σ3 q3 e3 hw=>by
    show wpAny _ _ _ _ _ _
    refine hK (hw _ s3 q3) (λ v4 s4 av σ4 hv4 hI4 q4 e4=>?_)
    have es4:=e3.trans e4
    have stay:∀a∈H,∀o,s1.heap.get? a=some o→s4.heap.get? a=some o:=λ a ha o z=>q4.hid a o (by unfold dC.over;rw[if_pos ha];exact z)
    have hD4:=stay D hDH _ hD1
    have hvs:aO s4.heap acc items.toList:=hv'.ev (e1.trans es4)
    refine wpAny_list_append_plain (items:=items) ⟨n,hD4⟩ (λ h₅ ⟨n5,hD5⟩ hs5=>?_) (by
     rw[←Array.length_toList,hvs.length,sizeLine_eq];exact Pp hz hl' lt)
    have e5:Ev s4.heap h₅:=Ev.but hD4 (λ _ z=>by have:=congrArg Obj.cls z;simp at this) hs5.extBut
    rw[Bw hlive1 q4] at q4
    have n4:∀b∈H,σ4 b=none:=λ b hb=>by
     obtain ⟨o,ho⟩:=hlive1 b hb
     exact mP q4 hb (stay b hb o ho)
    have q5:=q4.turn (s':={s4 with heap:=h₅}) hap n4 rfl rfl (λ b o hb z=>hs5.extBut b o (λ w=>hb (w▸hDH)) z) e5
    exact back _ (acc++[av]) σ4 (items.push v4) n5 hI4 (by simp;exact hl') q5 (λ a ha hd o z=>hs5.extBut a o hd (stay a ha o z)) hD5 (by simpa using (hvs.ev e5).append (.cons (hv4.ev e5) .nil)) (es4.trans e5)
   refine wpAny_assign_Name (wpAny_mono (eR (ΦA:=λ l σ''=>l=(λ z=>if z=x then some y else clo z)∧σ''=σ') hkx hcx ⟨aV.put_if,rfl⟩ _ s1 v q1 hv1)
    (λ _ s2 ⟨_,l2,σ2',_,⟨el,eσ⟩,q2,e2⟩=>?_) λ _ _ e=>e.elim)
   subst el eσ
   have hw:=hstep i y acc _ hx hI
   match ifs,hw with
   | [],hw=>exact wpAny_tests_nil (elem s2 _ q2 e2 hw)
   | [t],hw=>
    refine wpAny_tests_one (hK (hw _ s2 q2) (λ ok s3 b σ3 hb h₃ q3 e3=>?_))
    subst hb
    cases ok with
    | true=>exact elem s3 σ3 q3 (e2.trans e3) h₃
    | false=>
     have stay:∀a∈H,∀o,s1.heap.get? a=some o→s3.heap.get? a=some o:=λ a ha o z=>q3.hid a o (by unfold dC.over;rw[if_pos ha];exact z)
     rw[Bw hlive1 q3] at q3
     exact back s3 acc σ3 items n h₃ (by exact Nat.le_succ_of_le ‹_›) q3 (λ a ha _ o z=>stay a ha o z) (stay D hDH _ hD1) (hv'.ev (e1.trans (e2.trans e3))) (e2.trans e3)
  refine wpAny_mono (hS.next c.A i y s' (λ v s1=>wpAny (MM c) c.A (assign (.Name x px) cenv v) (λ _ s2=>wpAny (MM c) c.A (forIn ifs true λ t r=>if r=true then do let ok ←PySem.isTrue t cenv (eval t cenv);pure (ForInStep.yield ok) else pure (ForInStep.yield r)) Out gD s2) gD s1)
   q'.base.hand hst' hx turn) (λ r s1 ⟨v,hr,z⟩=>?_) λ _ _ e=>e.elim
  subst hr
  have z':wpAny (MM c) c.A (assign (.Name x px) cenv v) (λ _ s2=>wpAny (MM c) c.A (forIn ifs true λ t r=>if r=true then do let ok ←PySem.isTrue t cenv (eval t cenv);pure (ForInStep.yield ok) else pure (ForInStep.yield r)) Out gD s2) gD s1:=by
   have w:wpAny (MM c) c.A (pure ():Sem Unit) (λ _ s1=>wpAny (MM c) c.A (assign (.Name x px) cenv v) (λ _ s2=>wpAny (MM c) c.A (forIn ifs true λ t r=>if r=true then do let ok ←PySem.isTrue t cenv (eval t cenv);pure (ForInStep.yield ok) else pure (ForInStep.yield r)) Out gD s2) gD s1) gD s1:=z
   intro Γ p hΓ
   exact w Γ p hΓ Γ p hΓ
  exact wpAny_mono z' (λ _ s2 h₂=>wpAny_mono h₂ (λ ok s3 h₃=>by
   show if ok=true then _ else _
   cases ok with
   | true=>exact wpAny_mono (show wpAny _ _ _ _ _ _ from h₃) (λ v s4 h₄=>wpAny_mono h₄ (λ _ _ z=>z) λ _ _ e=>e.elim) λ _ _ e=>e.elim
   | false=>exact h₃) λ _ _ e=>e.elim) λ _ _ e=>e.elim
end
section
variable {c:Cx} {env:Env} {loc:aV} {σ:aF} {ρ:dC} {s:Shared} {scope:Scope} {x:Str} {cl:List (Str×Addr)}
theorem uT (ok:bY env scope x cl) (C:Addr):(compEnvC scope cl C env).kindOf x=some .local:=lookup_relabel_local ok.x
theorem Dl (ok:bY env scope x cl) (C:Addr):∀a,(x,a)∉(compEnvC scope cl C env).cells:=λ a m=>(ok.inn _ m).2 ok.x
theorem lQ (ok:bY env scope x cl) {elt iter:Expr} {px pos:Pos} {ifs:List Expr} {it:Value} {fp:List Addr} {xs:List AV} {St:Nat→Heap→Prop} {σ2:aF} {kp:List (Addr×AO)} (t:Tg)
  (hS:Cm c it (.Name x px) fp xs St kp) (hz:xs.length≤100000) (hst:St 0 s.heap) (q:bJ c env loc σ ρ s) (hap:kW c env ρ fp) (hσ:∀b,σ.hide fp b=σ2 b)
  (Inv:Nat→List AV→aF→Prop) (h0:Inv 0 [] σ2)
  (hstep:∀C i y acc σ',xs[i]? =some y→Inv i acc σ'→Gv c (compEnvC scope cl C env) (λ z=>if z=x then some y else fA scope loc z) σ' ifs elt (Lk Inv i acc))
  {RR:Value→Addr→Result→Shared→Prop}
  (hRR:∀s' D C acc σ' m,Inv xs.length acc σ'→acc.length≤xs.length→σ' D=none→bJ c env loc (σ'.put D (t,.list acc)) ρ s'→Ev s.heap s'.heap→s'.heap.Ns C m→
   (c.h₀.get? C=none∧(σ'.put D (t,.list acc)) C=none∧ρ C=none∧C≠env.locals∧∀n,(n,C)∉env.cells)→(∀x∈kp,x.1∈fp∧σ' x.1=none∧x.1≠D∧x.1≠C∧xC c.prog c.w s'.heap x.1 x.2)→RR (.ref D) C (.ok .next) s'):
  wpAny (MM c) c.A (newList []) (λ acc s3=>wpAny (MM c) c.A (newFunctionEnv scope env.globals cl [] env.qual none .none (some env)) (λ cenv s4=>
   codeAny (MM c) c.A (.compStart (.ListComp elt [⟨.Name x px,iter,ifs,0⟩] scope pos) 0 it acc {cenv with scope:=relabel scope env}) (RR acc cenv.locals) s4) gD s3) gD s:=by
 refine wpAny_newObj_type (wpAny_newFunctionEnv ok.cell (by intro y hy;simp at hy) (λ h1 hns1 hsb1=>?_) ok.kind)
 dsimp only at hns1 hsb1⊢
 generalize hH2:s.heap.push {cls:=.type "list",dict:=none,data:=.seq ([]:List Value).toArray}=H2 at hns1 hsb1⊢
 have hC:H2.objs.size=s.heap.objs.size+1:=by rw[←hH2,Heap.size_push]
 have hDC:s.heap.objs.size≠H2.objs.size:=by rw[hC];exact Nat.ne_of_lt (Nat.lt_succ_self _)
 have hCle:s.heap.objs.size≤H2.objs.size:=by rw[hC];exact Nat.le_succ _
 have old:∀b o,s.heap.get? b=some o→h1.get? b=some o:=λ b o e=>hsb1.extBut b o (λ w=>by
   have:=Heap.lt_size e
   rw[w,hC] at this
   exact absurd this (Nat.not_lt.mpr (Nat.le_succ _))) (Heap.get?_push_of_some _ (hH2▸Heap.get?_push_of_some _ e))
 have hDl:h1.get? s.heap.objs.size=some (listOf #[] 0):=hsb1.extBut _ _ hDC (Heap.get?_push_of_some _ (hH2▸Heap.get?_push_size _ rfl))
 have fresh:=λ (a:Addr) (h:s.heap.objs.size≤a)=>q.toSat0.fresh h
 have e1:Ev s.heap h1:=Ev.keeps old
 have loop:∀s3:Shared,s3={s with heap:=h1,toks:=s.toks+([]:List (Str×Value)).length}→
   codeAny (MM c) c.A (.compLoop (.ListComp elt [⟨.Name x px,iter,ifs,0⟩] scope pos) 0 it (.ref s.heap.objs.size) (compEnvC scope cl H2.objs.size env)) (RR (.ref s.heap.objs.size) H2.objs.size) s3∧St 0 s3.heap:=by
  rintro s3 rfl
  have q1:bJ c env loc σ ρ {s with heap:=h1,toks:=s.toks+([]:List (Str×Value)).length}:=(q.more (s':={s with heap:=h1,toks:=s.toks+([]:List (Str×Value)).length}) rfl rfl old).1
  have hst1:St 0 h1:=hS.frame _ _ _ hst e1 λ a _ o z=>old a o z
  have fpl:∀a∈fp,a<s.heap.objs.size:=λ a ha=>let ⟨o,ho⟩:=hS.live _ _ hst a ha;Heap.lt_size ho
  have hnone:∀b∈fp,σ2 b=none:=λ b hb=>by rw[←hσ b];unfold aF.hide;rw[if_pos hb]
  have f0:=fresh s.heap.objs.size (Nat.le_refl _)
  have f1:=fresh H2.objs.size hCle
  have σ2D:σ2 s.heap.objs.size=none:=by rw[←hσ];unfold aF.hide;split;rfl;exact f0.1
  have σ2C:σ2 H2.objs.size=none:=by rw[←hσ];unfold aF.hide;split;rfl;exact f1.1
  have hDfp:s.heap.objs.size∉fp:=λ m=>Nat.lt_irrefl _ (fpl _ m)
  have hCfp:H2.objs.size∉fp:=λ m=>Nat.lt_irrefl _ (Nat.lt_of_lt_of_le (fpl _ m) hCle)
  have q2:bJ c env loc σ2 ρ {s with heap:=h1,toks:=s.toks+([]:List (Str×Value)).length}:=by
   have z:=(q1.hide hap).ext (σ':=σ2) λ b=>(hσ b).symm
   exact z.unhide hap hnone
  have lD:=q.lt_frame (Nat.le_refl s.heap.objs.size)
  have lC:=q.lt_frame hCle
  obtain ⟨q3,hap3,hn3⟩:=q2.enterComp ok (fp:=fp) (D:=s.heap.objs.size) (C:=H2.objs.size) hap (λ a ha w=>by (subst w;exact hCfp ha)) hnone
   ⟨f0.2.2,σ2D,f0.2.1,lD.1,lD.2⟩ ⟨f1.2.2,σ2C,f1.2.1,lC.1,lC.2⟩ hDC hns1 (λ b o e=>Nat.lt_of_lt_of_le (Heap.lt_size (q.keep b o e)) hCle)
  have hlive:∀a∈dR env cl fp s.heap.objs.size,∃o,h1.get? a=some o:=λ a ha=>by
   rcases dO.mp ha with h | rfl | ⟨h,_⟩
   ·obtain ⟨o,ho⟩:=hS.live _ _ hst a h;exact ⟨o,old a o ho⟩
   ·exact ⟨_,hDl⟩
   ·obtain ⟨o,ho⟩:=q.frame_live a h;exact ⟨o,old a o ho⟩
  refine ⟨?_,hst1⟩
  have q3':bJ c (compEnvC scope cl H2.objs.size env) (λ z=>if z=x then none else fA scope loc z) σ2 (ρ.over (dR env cl fp s.heap.objs.size) h1) {s with heap:=h1,toks:=s.toks+([]:List (Str×Value)).length}:=by
   have:(λ z=>if z=x then none else fA scope loc z)=fA scope loc:=funext λ z=>by
    by_cases w:z=x
    ·subst w;rw[if_pos rfl];unfold fA;rw[if_pos ok.x]
    ·rw[if_neg w]
   rw[this];exact q3
  refine Dk hS hz hst1 (uT ok _) (Dl ok _) q3' hap3 (λ a ha=>dO.mpr (.inl ha)) (dO.mpr (.inr (.inl rfl))) hDfp hlive hDl Inv h0 (hstep _) ?_
  intro s' acc σ' lv items n hI hl q' hD' hv' e' hk' hkp
  have q'':bJ c env loc σ' ρ s':=q2.leaveComp ok (λ a ha hn o z=>hk' a (dO.mpr (.inr (.inr ⟨ha,hn⟩))) (λ w=>(cI.mp ha).elim (λ r=>(hap a w).2.2.1 r) λ ⟨n,m⟩=>(hap a w).2.2.2 n m)
   (λ w=>by subst w;exact (cI.mp ha).elim (λ r=>lD.1 r) λ ⟨n,m⟩=>lD.2 n m) o z) q' (λ a ha=>(hap3 a ha).2.1) e'
  have hσD:σ' s.heap.objs.size=none:=mP q' (dO.mpr (.inr (.inl rfl))) hD'
  obtain ⟨m,hm,_⟩:=q'.fr.locs
  refine hRR s' _ _ acc σ' m hI hl hσD (q''.track ⟨f0.2.2,f0.2.1,lD.1,lD.2⟩ ⟨items,n,hD',hv'⟩) (e1.trans e') hm ⟨f1.2.2,?_,f1.2.1,lC.1,lC.2⟩ λ x hx=>⟨hS.kin x hx,?_,λ e=>hDfp (e▸hS.kin x hx),λ e=>hCfp (e▸hS.kin x hx),hkp x hx⟩
  ·rw[aF.put_ne _ _ (Ne.symm hDC)];exact q'.fr.lown.2.1
  ·obtain ⟨o,ho,_⟩:=(hkp x hx).obj
   exact mP q' (dO.mpr (.inl (hS.kin x hx))) ho
 obtain ⟨l1,l2⟩:=loop _ rfl
 exact codeAny_compStart_list l1 (wpAny_mono (hS.self c.A _ (λ v s'=>v=it∧s'={s with heap:=h1,toks:=s.toks+([]:List (Str×Value)).length}) l2 ⟨rfl,rfl⟩) (λ v s' ⟨ev,es⟩=>by subst ev es;exact l1) λ _ _ e=>e.elim)
structure Aa (c:Cx) (env:Env) (loc:aV) (scope:Scope) (cl:List (Str×Addr)) (x:Str) (ifs:List Expr) (elt:Expr) (xs:List AV) (σ2:aF) (Inv:Nat→List AV→aF→Prop):Prop where
 h0:Inv 0 [] σ2
 hs:∀C i y acc σ',xs[i]? =some y→Inv i acc σ'→Gv c (compEnvC scope cl C env) (λ z=>if z=x then some y else fA scope loc z) σ' ifs elt (Lk Inv i acc)
inductive CQ (c:Cx) (env:Env) (loc:aV) (scope:Scope) (cl:List (Str×Addr)) (x:Str) (px:Pos) (ifs:List Expr) (elt:Expr) (t:Tg) (K:AV→aF→Prop) (a:AV) (σ1:aF):Prop
 | mk (xs:List AV) (σ2:aF) (it:hW c σ1 a (.Name x px) xs σ2) (hz:xs.length≤100000) (Inv:Nat→List AV→aF→Prop) (hb:Aa c env loc scope cl x ifs elt xs σ2 Inv)
  (he:∀acc σ' D,Inv xs.length acc σ'→acc.length≤xs.length→σ' D=none→K (.ref D) (σ'.put D (t,.list acc))):CQ c env loc scope cl x px ifs elt t K a σ1
inductive Wc (c:Cx) (env:Env) (loc:aV) (scope:Scope) (cl:List (Str×Addr)) (x:Str) (px:Pos) (ifs:List Expr) (elt:Expr) (t:Tg) (K:AV→aF→Prop) (a:AV) (σ1:aF):Prop
 | mk (xs:List AV) (σ2:aF) (l0:Addr) (t0:Tg) (ao:AO) (it:iI c σ1 a (.Name x px) xs σ2 [(l0,ao)]) (hz:xs.length≤100000) (Inv:Nat→List AV→aF→Prop) (hb:Aa c env loc scope cl x ifs elt xs σ2 Inv)
  (he:∀acc σ' D,Inv xs.length acc σ'→acc.length≤xs.length→σ' D=none→σ' l0=none→l0≠D→K (.ref D) ((σ'.put D (t,.list acc)).put l0 (t0,ao))):Wc c env loc scope cl x px ifs elt t K a σ1
theorem bW {elt iter:Expr} {px pos:Pos} {ifs:List Expr} {Φ:AV→aF→Prop} (ok:bY env scope x cl) (t:Tg)
  (h:WE c env loc σ iter (CQ c env loc scope cl x px ifs elt t Φ))
  (hs:∀v,foldedSetIterable iter env v=pure v:=by intro _;rfl):WE c env loc σ (.ListComp elt [⟨.Name x px,iter,ifs,0⟩] scope pos) Φ:=λ ρ s q=>by
 show wpAny _ _ (comprehension (.ListComp elt [⟨.Name x px,iter,ifs,0⟩] scope pos) scope env iter.pos (newList []) false (eval iter env)) _ _ _
 refine wpAny_comprehension_free (cl:=cl) (use:=none) rfl hs ok.clos ok.kind ok.names ?_
 refine hK (h ρ s q) (λ va s1 a σ1 ha hz3 q1 e1=>?_)
 obtain ⟨xs,σ2,hit,hz,Inv,⟨h0,hstep⟩,hend⟩:=hz3
 refine hit env loc ρ s1 va _ q1 ha λ it s2 fp St hS hst q2 e2 hap hσ=>?_
 refine lQ ok t hS hz hst q2 hap hσ Inv h0 hstep λ s' D C acc σ' m hI hl hD q' e' hm hC _=>?_
 refine ⟨m,hm,λ h' hs'=>?_⟩
 have eC:Ev s'.heap h':=by
  obtain ⟨o,es,ep,ho,hd,_⟩:=hm
  exact Ev.but ho (λ _ z=>by subst z;cases hd) hs'.extBut
 exact ⟨.ref D,_,by simp,hend acc σ' D hI hl hD,q'.poke (s':={s' with heap:=h'}) hC rfl rfl hs'.extBut eC,e1.trans (e2.trans (e'.trans eC))⟩
theorem wW {elt iter:Expr} {px pos:Pos} {ifs:List Expr} {Φ:AV→aF→Prop} (ok:bY env scope x cl) (t:Tg)
  (h:WE c env loc σ iter (Wc c env loc scope cl x px ifs elt t Φ))
  (hs:∀v,foldedSetIterable iter env v=pure v:=by intro _;rfl):WE c env loc σ (.ListComp elt [⟨.Name x px,iter,ifs,0⟩] scope pos) Φ:=λ ρ s q=>by
 show wpAny _ _ (comprehension (.ListComp elt [⟨.Name x px,iter,ifs,0⟩] scope pos) scope env iter.pos (newList []) false (eval iter env)) _ _ _
 refine wpAny_comprehension_free (cl:=cl) (use:=none) rfl hs ok.clos ok.kind ok.names ?_
 refine hK (h ρ s q) (λ va s1 a σ1 ha hz3 q1 e1=>?_)
 obtain ⟨xs,σ2,l0,t0,ao,hit,hz,Inv,⟨h0,hstep⟩,hend⟩:=hz3
 refine hit env loc ρ s1 va _ q1 ha λ it s2 fp St hS hst q2 e2 hap hσ=>?_
 refine lQ ok t hS hz hst q2 hap hσ Inv h0 hstep λ s' D C acc σ' m hI hl hD q' e' hm hC hkp=>?_
 refine ⟨m,hm,λ h' hs'=>?_⟩
 have eC:Ev s'.heap h':=by
  obtain ⟨o,es,ep,ho,hd,_⟩:=hm
  exact Ev.but ho (λ _ z=>by subst z;cases hd) hs'.extBut
 obtain ⟨k1,k2,k3,kc,k4⟩:=hkp _ List.mem_cons_self
 have ap:=hap l0 k1
 have qp:=q'.poke (s':={s' with heap:=h'}) hC rfl rfl hs'.extBut eC
 exact ⟨.ref D,_,by simp,hend acc σ' D hI hl hD k2 k3,qp.track ⟨ap.1,ap.2.1,ap.2.2.1,ap.2.2.2⟩ (k4.mono eC λ o e=>hs'.extBut l0 o kc e),e1.trans (e2.trans (e'.trans eC))⟩
theorem kT {elt iter:Expr} {px pos tp spos:Pos} {ifs:List Expr} {y:Str} {Φ:AF→aV→aF→Prop} (ok:bY env scope x cl) (t:Tg)
  (h:WE c env loc σ iter (CQ c env loc scope cl x px ifs elt t λ a σ'=>Φ .next (loc.put y a) σ'))
  (hu:swapsWith (.ListComp elt [⟨.Name x px,iter,ifs,0⟩] scope pos) (some (.Name y tp)) spos.line env=pure true)
  (hy:env.kindOf y=some .local) (hcy:∀a,(y,a)∉env.cells)
  (hs:∀v,foldedSetIterable iter env v=pure v:=by intro _;rfl):WS c env loc σ (exec (.Assign [.Name y tp] (.ListComp elt [⟨.Name x px,iter,ifs,0⟩] scope pos) spos) env) Φ:=λ ρ s q=>by
 rw[exec_Assign_Name_used _ _ _ _ (hs:=hu)]
 show wpAny _ _ (standAt spos>>=λ _=>(comprehension (.ListComp elt [⟨.Name x px,iter,ifs,0⟩] scope pos) scope env iter.pos (newList []) false (eval iter env) (some (assign (.Name y tp) env))>>=λ _=>pure ())>>=λ _=>pure Flow.next) _ _ _
 refine wpAny_bind (wpAny_standAt (wpAny_bind (wpAny_bind ?_)))
 refine wpAny_comprehension_free (cl:=cl) (use:=some (assign (.Name y tp) env)) rfl hs ok.clos ok.kind ok.names ?_
 refine hK (h ρ s q) (λ va s1 a σ1 ha hz3 q1 e1=>?_)
 obtain ⟨xs,σ2,hit,hz,Inv,⟨h0,hstep⟩,hend⟩:=hz3
 refine hit env loc ρ s1 va _ q1 ha λ it s2 fp St hS hst q2 e2 hap hσ=>?_
 refine lQ ok t hS hz hst q2 hap hσ Inv h0 hstep λ s' D C acc σ' m hI hl hD q' e' hm hC _=>?_
 have hapC:kW c env ρ [C]:=λ b hb=>by
  rw[List.mem_singleton] at hb;subst hb
  exact ⟨hC.1,hC.2.2.1,hC.2.2.2.1,hC.2.2.2.2⟩
 have q'':bJ c env loc (σ'.put D (t,.list acc)) (ρ.over [C] s'.heap) s':=(q'.hide hapC).ext λ b=>by
  unfold aF.hide
  by_cases w:b=C
  ·subst w;rw[if_pos (by simp),hC.2.1]
  ·rw[if_neg (by simpa using w)]
 refine wpAny_assign_Name (Gy (eR (ΦA:=λ l σ''=>l=loc.put y (.ref D)∧σ''=σ'.put D (t,.list acc)) hy hcy ⟨rfl,rfl⟩ _ s' (.ref D) q'' (by simp)) (λ _ s'' _ l σ3 _ hz4 q3 e3=>?_))
 obtain ⟨el,eσ⟩:=hz4
 subst el eσ
 obtain ⟨oC,es,ep,hoC,hdC,r⟩:=hm
 have hoC':s''.heap.get? C=some oC:=q3.hid C oC (by unfold dC.over;rw[if_pos (by simp)];exact hoC)
 refine ⟨m,⟨oC,es,ep,hoC',hdC,r⟩,λ h' hs'=>?_⟩
 have eC:Ev s''.heap h':=Ev.but hoC' (λ _ z=>by subst z;cases hdC) hs'.extBut
 have eq:ρ.over [C] s'.heap=ρ.over [C] s''.heap:=funext λ b=>by
  unfold dC.over
  by_cases w:b=C
  ·subst w;rw[if_pos (by simp),if_pos (by simp),hoC,hoC']
  ·rw[if_neg (by simpa using w),if_neg (by simpa using w)]
 rw[eq] at q3
 have nC:∀b∈[C],(σ'.put D (t,.list acc)) b=none:=λ b hb=>by (rw[List.mem_singleton] at hb;subst hb;exact hC.2.1)
 have q4:=(q3.turn (s':={s'' with heap:=h'}) hapC nC rfl rfl (λ b o hb z=>hs'.extBut b o (by simpa using hb) z) eC).unhide hapC nC
 exact wpAny_pure (wpAny_pure ⟨.next,_,_,rfl,hend acc σ' D hI hl hD,q4,e1.trans (e2.trans (e'.trans (e3.trans eC)))⟩)
end
noncomputable def Ab:Option Int→AV
 | none=>.none
 | some i=>.int i
theorem kG {h:Heap} {o:Option Int} {v:Value} (q:bH h (Ab o) v):(o=none∧v= .none)∨∃i t,o=some i∧v= .int i t:=by
 cases o with
 | none=>rw[Ab,VIs_none] at q;exact .inl ⟨rfl,q⟩
 | some i=>rw[Ab,VIs_int] at q;obtain ⟨t,rfl⟩:=q;exact .inr ⟨i,t,rfl,rfl⟩
section
variable {c:Cx} {env:Env} {loc:aV} {σ:aF} {Φ:AV→aF→Prop} {a b:Int}
theorem fR {f:Value→Value→Sem Value} {r:AV} (h:Φ r σ)
  (k:∀(s:Shared) (t u:Tok) (Q:Value→Shared→Prop),(∀v tk,bH s.heap r v→Q v {s with toks:=tk})→wpAny (MM c) c.A (f (.int a t) (.int b u)) Q gD s):
  W2 c env bH loc σ (.int a) (.int b) f Φ:=λ ρ s va vb q ha hb=>by
 rw[VIs_int] at ha hb
 obtain ⟨t,rfl⟩:=ha
 obtain ⟨u,rfl⟩:=hb
 exact k s t u _ λ v tk hv=>⟨r,σ,hv,h,q.toks tk,Ev.refl _⟩
theorem eX (h:Φ (.int (a+b)) σ):W2 c env bH loc σ (.int a) (.int b) (binaryOp .Add) Φ:=fR h λ s t u Q k=>P.add_int (k _ _ (by simp))
theorem nH (h:Φ (.int (a-b)) σ):W2 c env bH loc σ (.int a) (.int b) (binaryOp .Sub) Φ:=fR h λ s t u Q k=>P.sub_int (k _ _ (by simp))
theorem Eo (h:Φ (.int (a*b)) σ) (h1: -(2^64)<a) (h2:a<2^64):W2 c env bH loc σ (.int a) (.int b) (binaryOp .Mult) Φ:=
 fR h λ s t u Q k=>P.mul_int (k _ _ (by simp)) (IntMulOk.of_left (intBits_le_64 h1 h2))
theorem Aw (h:Φ (.int (a.fmod b)) σ) (hb:b≠0):W2 c env bH loc σ (.int a) (.int b) (binaryOp .Mod) Φ:=fR h λ s t u Q k=>mod_int' hb (k _ _ (by simp))
theorem Kw (h:Φ (.int (a.fdiv b)) σ) (hb:b≠0) (hp:Builtin.divisionGoesByPylong a b=false):W2 c env bH loc σ (.int a) (.int b) (binaryOp .FloorDiv) Φ:=fR h λ s t u Q k=>floordiv_int hb (k _ _ (by simp)) (.inl hp)
theorem qR (h:Φ (.bool (a==b)) σ):W2 c env bH loc σ (.int a) (.int b) (compareOp .Eq) Φ:=fR h λ s t u Q k=>P.eq_int (k _ s.toks (by simp))
theorem Bx (h:Φ (.bool (a !=b)) σ):W2 c env bH loc σ (.int a) (.int b) (compareOp .NotEq) Φ:=fR h λ s t u Q k=>P.ne_int (k _ s.toks (by simp))
theorem uM (h:Φ (.bool (decide (a<b))) σ):W2 c env bH loc σ (.int a) (.int b) (compareOp .Lt) Φ:=fR h λ s t u Q k=>P.lt_int (k _ s.toks (by simp))
theorem L9 (h:Φ (.bool (decide (a≤b))) σ):W2 c env bH loc σ (.int a) (.int b) (compareOp .LtE) Φ:=fR h λ s t u Q k=>P.le_int (k _ s.toks (by simp))
theorem Ma (h:Φ (.bool (decide (a>b))) σ):W2 c env bH loc σ (.int a) (.int b) (compareOp .Gt) Φ:=fR h λ s t u Q k=>P.gt_int (k _ s.toks (by simp))
theorem Kq (h:Φ (.int (-a)) σ):W1 c env bH loc σ (.int a) (unaryOp .USub) Φ:=λ ρ s va q ha=>by
 rw[VIs_int] at ha
 obtain ⟨t,rfl⟩:=ha
 exact P.neg_int ⟨_,σ,by simp,h,q.toks _,Ev.refl _⟩
theorem Ks {x y:Option Int} (h:Φ (.bool (x !=y)) σ):W2 c env bH loc σ (Ab x) (Ab y) (compareOp .NotEq) Φ:=λ ρ s va vb q ha hb=>by
 have fin:∀r:Bool,r=(x !=y)→fH c env loc ρ s.heap bH Φ (.bool r) s:=λ r e=>⟨.bool r,σ,by simp,e▸h,q,Ev.refl _⟩
 rcases kG ha with ⟨rfl,rfl⟩ | ⟨i,t,rfl,rfl⟩<;>rcases kG hb with ⟨rfl,rfl⟩ | ⟨j,u,rfl,rfl⟩
 ·exact EqNone.ne_none_none (fin _ rfl)
 ·exact EqNone.ne_none_int (fin _ rfl)
 ·exact EqNone.ne_int_none (fin _ rfl)
 ·refine P.ne_int (fin _ ?_)
  rw[bne,bne,Option.some_beq_some]
noncomputable def AV.isNone:AV→Bool
 | .none=>true
 | .lit v=>v== .none
 | _=>false
theorem AV.isNone_of {h:Heap} {x:AV} {v:Value} (ha:x≠ .any) (q:bH h x v):(v== .none)=x.isNone:=by
 cases x with
 | none=>rw[VIs_none] at q;subst q;rfl
 | bool=>rw[VIs_bool] at q;subst q;rfl
 | int=>rw[VIs_int] at q;obtain ⟨t,rfl⟩:=q;rfl
 | str=>rw[VIs_str] at q;obtain ⟨t,rfl⟩:=q;rfl
 | ref=>rw[VIs_ref] at q;subst q;rfl
 | tup=>rw[dN] at q;obtain ⟨t,its,rfl,_⟩:=q;rfl
 | lit=>rw[VIs_lit] at q;subst q;rfl
 | any=>exact absurd rfl ha
theorem uN {x:AV} (h:Φ (.bool x.isNone) σ) (hx:x≠ .any):W2 c env bH loc σ x .none (compareOp .Is) Φ:=λ ρ s va vb q ha hb=>by
 rw[VIs_none] at hb;subst hb
 exact is_none ⟨.bool x.isNone,σ,by rw[AV.isNone_of hx ha,VIs_bool],h,q,Ev.refl _⟩
theorem Gh (h:Φ (.int (if a<0 then-a else a)) σ):WC c env loc σ (.builtin "abs") [.int a] Φ:=λ ρ s vs q hv=>by
 obtain ⟨v,vr,rfl,h1,h2⟩:=hv.cons_inv
 rw[h2.nil_inv]
 rw[VIs_int] at h1
 obtain ⟨t,rfl⟩:=h1
 exact call_abs_int λ u tk=>⟨_,σ,by simp,h,q.toks tk,Ev.refl _⟩
end
noncomputable def WG (c:Cx) (env:Env) (loc:aV) (σ:aF) (a k:AV) (Φ:AV→aF→Prop):Prop:=
 ∀ρ s va vk,bJ c env loc σ ρ s→bH s.heap a va→bH s.heap k vk→∃T id:String,typeLookup (.type T) "__getitem__"=pure (some (.builtin id))∧s.TypeIs va T∧
  wpAny (MM c) c.A (getItem va vk) (fH c env loc ρ s.heap bH Φ) gD s
section
variable {c:Cx} {env:Env} {loc:aV} {σ:aF} {Φ:AV→aF→Prop}
theorem qO {value slice:Expr} {pos:Pos} {ρ:dC} {h:Heap} {s:Shared} {o i:Value} {T id:String} {f:List Value} (hl:typeLookup (.type T) "__getitem__"=pure (some (.builtin id))) (hT:s.TypeIs o T)
  (hf:subscripted slice false o i=operate f (getItem o i)) (hg:wpAny (MM c) c.A (getItem o i) (fH c env loc ρ h bH Φ) gD s):
  wpAny (MM c) c.A (getitemInPython o>>=λ b=>subscripted slice b o i>>=λ r=>letTemporaryGo value o r>>=λ _=>pure r) (fH c env loc ρ h bH Φ) gD s:=by
 refine wpAny_bind ?_
 rw[getitemInPython_of_ne hT.not_modules]
 refine wpAny_bind (wpAny_specialOf hT hl ?_)
 refine wpAny_pure (wpAny_bind ?_)
 rw[hf]
 exact wpAny_operating (wpAny_mono hg (λ r s3 h3=>wpAny_bind (wpAny_letTemporaryGo (wpAny_pure h3))) λ _ _ x=>x)
noncomputable abbrev Wa (c:Cx) (env:Env) (loc:aV) (Φ:AV→aF→Prop) (a:AV):AV→aF→Prop:=λ k σ2=>WG c env loc σ2 a k Φ
noncomputable abbrev CK (c:Cx) (env:Env) (loc:aV) (slice:Expr) (Φ:AV→aF→Prop):AV→aF→Prop:=λ a σ1=>WE c env loc σ1 slice (Wa c env loc Φ a)
theorem bF {value slice:Expr} {pos:Pos} (h:WE c env loc σ value (CK c env loc slice Φ))
  (hf:∀o i,subscripted slice false o i=operate [o,i] (getItem o i):=by intro _ _;rfl):WE c env loc σ (.Subscript value slice pos) Φ:=λ ρ s q=>by
 rw[eval_Subscript]
 refine wpAny_bind (hK (h ρ s q) (λ o s1 a σ1 ha h₁ q1 e1=>wpAny_bind (wpAny_holding (hK (h₁ ρ s1 q1) (λ i s₂ k σ2 hk h₂ q₂ e2=>wpAny_bind (wpAny_standAt ?_))))))
 obtain ⟨T,id,hl,hT,hg⟩:=h₂ ρ s₂ o i q₂ (ha.ev e2) hk
 exact qO (pos:=pos) hl hT (hf o i) (wpAny_mono hg (λ _ _ z=>z.ev (e1.trans e2)) λ _ _ e=>e)
theorem gS {value:Expr} {k:Nat} {p1 p pos:Pos} (h:WE c env loc σ value λ a σ1=>∃x l,a= .tup (x::l)∧Φ (.tup l) σ1):
  WE c env loc σ (.Subscript value (.Slice (some (.Constant (.int 1) k p1)) none none p) pos) Φ:=λ ρ s q=>by
 rw[eval_Subscript]
 refine wpAny_bind (wpAny_mono (h ρ s q) (λ o s1 ⟨a,σ1,ha,⟨x,l,ea,h₁⟩,q1,e1⟩=>wpAny_bind (wpAny_holding (wpAny_Slice (wpAny_Constant_int (k:=k) (pos:=p1) (wpAny_pure (wpAny_pure (wpAny_bind (wpAny_standAt ?_)))))))) λ _ _ e=>e.elim)
 subst ea
 rw[dN] at ha
 obtain ⟨t,items,rfl,ht,hz,hv⟩:=ha
 generalize hs2:({s1 with toks:=s1.toks+1}:Shared)=s2
 have q2:bJ c env loc σ1 ρ s2:=by rw[←hs2];exact q1.toks _
 have hh:s2.heap=s1.heap:=by rw[←hs2]
 have m:=q2.more (s':={s2 with heap:=s2.heap.push {cls:=.type "slice",data:=.fields #[.int 1 s1.toks,.none,.none]} }) rfl rfl λ _ _ z=>Heap.get?_push_of_some _ z
 have ht':s2.heap.get? t=some (cB items):=by rw[hh];exact ht
 have it:IsTup (s2.heap.push {cls:=.type "slice",data:=.fields #[.int 1 s1.toks,.none,.none]}) t items:=⟨_,Heap.get?_push_of_some _ ht',rfl,0,rfl⟩
 have hlen:=hv.length
 rw[List.length_cons] at hlen
 refine qO (pos:=pos) (s:={s2 with heap:=s2.heap.push {cls:=.type "slice",data:=.fields #[.int 1 s1.toks,.none,.none]} }) slot_tuple_getitem.lookup it.typeIs (f:=[.ref s2.heap.objs.size,.ref t]) rfl ?_
 refine getItem_tuple_from (a:=1) it ⟨_,Heap.get?_push_size _ rfl,rfl,rfl⟩ (Nat.le_refl _) (by rw[←Array.length_toList];exact Tp hlen) ?_ (by rw[sizeLine_eq];exact Ht hz)
 have m2:=m.1.more (s':={s2 with heap:=(s2.heap.push {cls:=.type "slice",data:=.fields #[.int 1 s1.toks,.none,.none]}).push (cB (items.toList.drop 1).toArray)}) rfl rfl λ _ _ z=>Heap.get?_push_of_some _ z
 have ev:Ev s1.heap ((s2.heap.push {cls:=.type "slice",data:=.fields #[.int 1 s1.toks,.none,.none]}).push (cB (items.toList.drop 1).toArray)):=by
  rw[←hh];exact m.2.trans m2.2
 refine ⟨.tup l,σ1,dN.mpr ⟨_,(items.toList.drop 1).toArray,rfl,Heap.get?_push_size _ rfl,by simp;exact AC hz,?_⟩,h₁,m2.1,e1.trans ev⟩
 have:=(hv.ev ev).drop 1
 simpa using this
theorem mE {i n:Nat} (h:i<n):seqIndex? (i:Int) n=some i:=by
 unfold seqIndex?
 have h0:¬((i:Int)<0):=by exact Vf
 simp only[h0,if_false]
 rw[if_pos (by simp;exact h)]
 simp
theorem mM {l:List AV} {i:Nat} {x:AV} (hx:l[i]? =some x) (h:Φ x σ):WG c env loc σ (.tup l) (.int i) Φ:=λ ρ s va vk q ha hk=>by
 rw[dN] at ha
 obtain ⟨t,items,rfl,ht,hz,hv⟩:=ha
 rw[VIs_int] at hk
 obtain ⟨u,rfl⟩:=hk
 have it:IsTup s.heap t items:=⟨_,ht,rfl,0,rfl⟩
 obtain ⟨v,hv1,hv2⟩:=hv.get hx
 have hlt:i<items.size:=by
  have:=(List.getElem?_eq_some_iff.mp hv1).1
  simpa using this
 exact ⟨"tuple",_,slot_tuple_getitem.lookup,it.typeIs,getItem_tuple it (by exact Int.natCast_nonneg _) (by exact S5 hz hlt) (mE hlt) (by simpa using hv1) ⟨x,σ,hv2,h,q,Ev.refl _⟩⟩
theorem bC {l:Addr} {t:Tg} {xs:List AV} {i:Nat} {x:AV} (hl:σ l=some (t,.list xs)) (hx:xs[i]? =some x) (hi:i<2^63) (h:Φ x σ):WG c env loc σ (.ref l) (.int i) Φ:=λ ρ s va vk q ha hk=>by
 rw[VIs_ref] at ha;subst ha
 rw[VIs_int] at hk
 obtain ⟨u,rfl⟩:=hk
 obtain ⟨items,n,h1,h2⟩:=q.obj l t _ hl
 obtain ⟨v,hv1,hv2⟩:=h2.get hx
 exact ⟨"list",_,list_getitem_lookup,⟨_,h1,rfl⟩,wpAny_getItem_list ⟨_,h1,rfl,n,rfl⟩ (by exact Int.natCast_nonneg _) (by exact AW hi) (by simpa using hv1) ⟨x,σ,hv2,h,q,Ev.refl _⟩⟩
theorem Dc {l:Addr} {t:Tg} {xs:List AV} {x:AV} (hl:σ l=some (t,.list xs)) (hx:xs.getLast? =some x) (h:Φ x σ):WG c env loc σ (.ref l) (.int (-1)) Φ:=λ ρ s va vk q ha hk=>by
 rw[VIs_ref] at ha;subst ha
 rw[VIs_int] at hk
 obtain ⟨u,rfl⟩:=hk
 obtain ⟨items,n,h1,h2⟩:=q.obj l t _ hl
 rw[List.getLast?_eq_getElem?] at hx
 obtain ⟨v,hv1,hv2⟩:=h2.get hx
 have hlen:items.size=xs.length:=by rw[←Array.length_toList];exact h2.length
 have hpos:xs.length-1<items.size:=by rw[←Array.length_toList];exact (List.getElem?_eq_some_iff.mp hv1).1
 have e:((-1:Int)+items.size).toNat=xs.length-1:=by exact Te hlen
 exact ⟨"list",_,list_getitem_lookup,⟨_,h1,rfl⟩,wpAny_getItem_list_neg ⟨_,h1,rfl,n,rfl⟩ (by exact Int.natCast_nonneg _) (by exact Up hpos) (by exact Int.natCast_nonneg _) (by rw[e];simpa using hv1) ⟨x,σ,hv2,h,q,Ev.refl _⟩⟩
theorem Ie {value:Expr} {k:Nat} {n:Nat} {p1 p pos:Pos} (t:Tg)
  (h:WE c env loc σ value λ a σ1=>∃l items xs,a= .ref l∧c.h₀.IsList l items∧items.size≤100000∧(∀h:Heap,aO h xs items.toList)∧∀D,σ1 D=none→Φ (.ref D) (σ1.put D (t,.list (xs.take n)))):
  WE c env loc σ (.Subscript value (.Slice none (some (.Constant (.int n) k p1)) none p) pos) Φ:=λ ρ s q=>by
 rw[eval_Subscript]
 refine wpAny_bind (wpAny_mono (h ρ s q) (λ o s1 ⟨a,σ1,ha,⟨l,items,xs,ea,hl,hz,hv,h₁⟩,q1,e1⟩=>wpAny_bind (wpAny_holding (wpAny_Slice (wpAny_pure (wpAny_Constant_int (k:=k) (pos:=p1) (wpAny_pure (wpAny_bind (wpAny_standAt ?_)))))))) λ _ _ e=>e.elim)
 subst ea
 rw[VIs_ref] at ha;subst ha
 generalize hs2:({s1 with toks:=s1.toks+1}:Shared)=s2
 have q2:bJ c env loc σ1 ρ s2:=by rw[←hs2];exact q1.toks _
 have hh:s2.heap=s1.heap:=by rw[←hs2]
 have m:=q2.more (s':={s2 with heap:=s2.heap.push {cls:=.type "slice",data:=.fields #[.none,.int n s1.toks,.none]} }) rfl rfl λ _ _ z=>Heap.get?_push_of_some _ z
 have hl':(s2.heap.push {cls:=.type "slice",data:=.fields #[.none,.int n s1.toks,.none]}).IsList l items:=let ⟨o,ho,r⟩:=hl;⟨o,Heap.get?_push_of_some _ (q2.keep _ _ ho),r⟩
 refine qO (pos:=pos) (s:={s2 with heap:=s2.heap.push {cls:=.type "slice",data:=.fields #[.none,.int n s1.toks,.none]} }) list_getitem_lookup (Heap.IsList.typeIs (s:={s2 with heap:=s2.heap.push {cls:=.type "slice",data:=.fields #[.none,.int n s1.toks,.none]} }) hl') (f:=[.ref s2.heap.objs.size,.ref l]) rfl ?_
 refine wpAny_getItem_list_slice (lo:=none) (hi:=some (n:Int)) (st:=none) hl' ⟨_,Heap.get?_push_size _ rfl,rfl,rfl⟩ .none (.int _ _) .none (by simp) ?_ (by rw[sizeLine_eq];exact Ht hz)
 have m2:=m.1.new (s':={s2 with heap:=(s2.heap.push {cls:=.type "slice",data:=.fields #[.none,.int n s1.toks,.none]}).push {cls:=.type "list",data:=.seq (slicePick items none (some (n:Int)) none)} }) (a:=(s2.heap.push {cls:=.type "slice",data:=.fields #[.none,.int n s1.toks,.none]}).objs.size)
  (y:=(t,.list (xs.take n))) rfl rfl (Nat.le_refl _) (λ _ _ z=>Heap.get?_push_of_some _ z) ⟨_,0,Heap.get?_push_size _ rfl,by
   have:=slicePick_upto' items n
   rw[this]
   simpa using (hv _).take n⟩
 refine ⟨.ref _,_,by simp,h₁ _ m2.2.2,m2.1,?_⟩
 refine e1.trans ?_
 have:=m.2.trans m2.2.1
 rw[hh] at this
 rw[hh];exact this
end
section
variable {c:Cx} {env:Env} {loc:aV} {σ:aF} {Φ:AV→aF→Prop} {l:Addr} {t:Tg} {xs:List AV}
theorem A2 {h:Heap} {l:Addr} {items:Array Value} {n:Nat} (x:h.get? l=some (listOf items n)) (f:Array Value→Array Value):
  ∃n',(h.update l (Obj.mapSeq f)).get? l=some (listOf (f items) n'):=⟨_,IsL.update x f⟩
theorem nK {name:Str} {id:String} (hl:σ l=some (t,.list xs)) (slot:Slot "list" name id) (hty:typeOf (.builtin id)=pure (.type "method_descriptor")):fP c σ (.ref l) name (.builtin id):=
 λ env loc ρ s v pl Q q hv h=>by
  rw[VIs_ref] at hv;subst hv
  obtain ⟨items,n,h1,h2⟩:=q.obj l t _ hl
  exact getMethod_builtin ⟨_,h1,rfl⟩ PySem.F.plainAttrs_list slot hty (λ a e=>by cases e;exact ⟨_,h1,rfl⟩) h
theorem jZ {ρ:dC} {s:Shared} {ys:List AV} {its:Array Value} {tk:Nat} {items:Array Value} {n:Nat} {f:Array Value→Array Value} (q:bJ c env loc σ ρ s) (hl:σ l=some (t,.list xs)) (h1:s.heap.get? l=some (listOf items n))
  (hv:aO s.heap ys (f items).toList):bJ c env loc (σ.put l (t,.list ys)) ρ {s with heap:=s.heap.update l (Obj.mapSeq f),toks:=tk}∧Ev s.heap (s.heap.update l (Obj.mapSeq f)):=by
 obtain ⟨n',h'⟩:=A2 h1 f
 have k:Heap.ExtBut l s.heap (s.heap.update l (Obj.mapSeq f)):=(Heap.SameBut.update ..).extBut
 exact q.upd (s':={s with heap:=s.heap.update l (Obj.mapSeq f),toks:=tk}) rfl rfl hl k ⟨_,n',h',hv.ev (Ev.ofBut (q.obj l t _ hl) k)⟩
theorem bR {x:AV} (hl:σ l=some (t,.list xs)) (hz:xs.length≤10000000) (h:Φ .none (σ.put l (t,.list (xs++[x])))):WC c env loc σ (.builtin "list.append") [.ref l,x] Φ:=λ ρ s vs q hv=>by
 obtain ⟨v,vr,rfl,h1,h2⟩:=hv.cons_inv
 obtain ⟨u,ur,rfl,h3,h4⟩:=h2.cons_inv
 rw[h4.nil_inv];rw[VIs_ref] at h1;subst h1
 obtain ⟨items,n,h5,h6⟩:=q.obj l t _ hl
 have hlen:=h6.length
 rw[Array.length_toList] at hlen
 refine call_meets F.slot_list_append ⟨_,h5,rfl⟩ F.entry_list_append (F.args_list_append_2 _ _) (list_append l items n u (by rw[sizeLine_eq];exact Jj hz hlen)) ⟨h5,?_⟩
 have z:=jZ (tk:=s.toks) (its:=items) (ys:=xs++[x]) (f:=λ a=>a.push u) q hl h5 (by simpa using h6.append (.cons h3 .nil))
 exact ⟨.none,_,by simp,h,z.1,z.2⟩
theorem uG {l2:Addr} {t2:Tg} {ys:List AV} (hl:σ l=some (t,.list xs)) (hl2:σ l2=some (t2,.list ys)) (hz:xs.length+ys.length≤10000000) (h:Φ .none (σ.put l (t,.list (xs++ys)))):
  WC c env loc σ (.builtin "list.extend") [.ref l,.ref l2] Φ:=λ ρ s vs q hv=>by
 obtain ⟨v,vr,rfl,h1,h2⟩:=hv.cons_inv
 obtain ⟨u,ur,rfl,h3,h4⟩:=h2.cons_inv
 rw[h4.nil_inv];rw[VIs_ref] at h1 h3;subst h1 h3
 obtain ⟨items,n,h5,h6⟩:=q.obj l t _ hl
 obtain ⟨items2,n2,h7,h8⟩:=q.obj l2 t2 _ hl2
 have hlen:=h6.length
 have hlen2:=h8.length
 rw[Array.length_toList] at hlen hlen2
 have hnl:¬(!items.isEmpty&&Builtin.List.listTooLong (items.size+items2.size))=true:=by
  have:Builtin.List.listTooLong (items.size+items2.size)=false:=by
   unfold Builtin.List.listTooLong
   rw[sizeLine_eq,decide_eq_false (by exact Op hz hlen hlen2)]
  rw[this];simp
 refine call_meets F.slot_list_extend ⟨_,h5,rfl⟩ F.entry_list_extend (F.args_list_extend_2 _ _) (AutoSeq1.list_extend_list_list_0 l items n l2 items2 n2 hnl (by rw[sizeLine_eq];exact Qz hz hlen) (by rw[sizeLine_eq];exact Oq hz hlen hlen2)) ⟨h5,h7,?_⟩
 have z:=jZ (tk:=s.toks) (its:=items) (ys:=xs++ys) (f:=λ a=>a++items2) q hl h5 (by simpa using h6.append h8)
 exact ⟨.none,_,by simp,h,z.1,z.2⟩
theorem Kk {x:AV} (hl:σ l=some (t,.list (xs++[x]))) (hz:xs.length≤10000000) (h:Φ x (σ.put l (t,.list xs))):WC c env loc σ (.builtin "list.pop") [.ref l] Φ:=λ ρ s vs q hv=>by
 obtain ⟨v,vr,rfl,h1,h2⟩:=hv.cons_inv
 rw[h2.nil_inv];rw[VIs_ref] at h1;subst h1
 obtain ⟨items,n,h5,h6⟩:=q.obj l t _ hl
 have hlen:=h6.length
 rw[Array.length_toList,List.length_append,List.length_singleton] at hlen
 obtain ⟨y,hy1,hy2⟩:=h6.get (i:=xs.length) (x:=x) (by simp)
 have hy:items[items.size-1]? =some y:=by
  have e:items.size-1=xs.length:=by exact xW hlen
  rw[e];simpa using hy1
 refine call_meets F.slot_list_pop ⟨_,h5,rfl⟩ F.entry_list_pop (F.args_list_pop_1 _) (MeetsSeq.list_pop_last l items n y hy (by rw[sizeLine_eq];exact S2 hz hlen)) ⟨h5,?_⟩
 have z:=jZ (tk:=s.toks) (its:=items) (ys:=xs) (f:=λ a=>a.eraseIdxIfInBounds (items.size-1)) q hl h5 (by
  have e:(items.eraseIdxIfInBounds (items.size-1)).toList=items.toList.take xs.length:=by
   unfold Array.eraseIdxIfInBounds
   rw[dif_pos (by exact Tn hlen),Array.toList_eraseIdx]
   rw[List.eraseIdx_eq_take_drop_succ]
   have e1:items.size-1=xs.length:=by exact xW hlen
   rw[e1,List.drop_of_length_le (by rw[Array.length_toList];exact Tl hlen),List.append_nil]
  rw[e]
  have:=h6.take xs.length
  simpa using this)
 exact ⟨x,_,hy2.ev z.2,h,z.1,z.2⟩
theorem mF {l2:Addr} {t2:Tg} {ys:List AV} (t3:Tg) (hl:σ l=some (t,.list xs)) (hl2:σ l2=some (t2,.list ys)) (hz:xs.length+ys.length≤10000000) (h:∀D,σ D=none→Φ (.ref D) (σ.put D (t3,.list (xs++ys)))):
  W2 c env bH loc σ (.ref l) (.ref l2) (binaryOp .Add) Φ:=λ ρ s va vb q ha hb=>by
 rw[VIs_ref] at ha hb;subst ha hb
 obtain ⟨items,n,h5,h6⟩:=q.obj l t _ hl
 obtain ⟨items2,n2,h7,h8⟩:=q.obj l2 t2 _ hl2
 have hlen:=h6.length
 have hlen2:=h8.length
 rw[Array.length_toList] at hlen hlen2
 refine P.add_list h5 h7 ?_ (by rw[sizeLine_eq];exact Os hz hlen hlen2)
 have z:=q.new (s':={s with heap:=s.heap.push {cls:=.type "list",data:=.seq (items++items2)} }) (a:=s.heap.objs.size) (y:=(t3,.list (xs++ys))) rfl rfl (Nat.le_refl _) (λ _ _ z=>Heap.get?_push_of_some _ z)
  ⟨_,0,Heap.get?_push_size _ rfl,by simpa using (h6.append h8).ev (Ev.keeps λ _ _ z=>Heap.get?_push_of_some _ z)⟩
 exact ⟨.ref _,_,by simp,h _ z.2.2,z.1,z.2.1⟩
theorem pU {xs ys:List AV} (h:Φ (.tup (xs++ys)) σ) (hz:xs.length+ys.length≤100000):W2 c env bH loc σ (.tup xs) (.tup ys) (binaryOp .Add) Φ:=λ ρ s va vb q ha hb=>by
 have ha':=ha
 have hb':=hb
 rw[dN] at ha hb
 obtain ⟨a,items,rfl,h5,h5',h6⟩:=ha
 obtain ⟨b,items2,rfl,h7,h7',h8⟩:=hb
 have hlen:=h6.length
 have hlen2:=h8.length
 rw[Array.length_toList] at hlen hlen2
 have emp:∀{its:Array Value} {zs:List AV},its.size=zs.length→its.isEmpty=true→zs=[]:=λ e z=>by
  rw[Array.isEmpty_iff_size_eq_zero] at z
  exact List.eq_nil_of_length_eq_zero (by exact Tj e z)
 by_cases e1:items.isEmpty=true
 ·have:=emp hlen e1
  subst this
  exact concat_meets ⟨_,h5,rfl⟩ ⟨_,h7,rfl⟩ noFill_tuple_add seq_tuple_add F.slot_tuple_add F.entry_tuple_add (F.args_tuple_add_2 _ _) (AutoSeq1.tuple___add___tuple_tuple_0 a items 0 b items2 0 e1)
   ⟨h5,h7,⟨.tup ys,σ,hb',by simpa using h,q.toks _,Ev.refl _⟩⟩
 ·by_cases e2:items2.isEmpty=true
  ·have:=emp hlen2 e2
   subst this
   exact concat_meets ⟨_,h5,rfl⟩ ⟨_,h7,rfl⟩ noFill_tuple_add seq_tuple_add F.slot_tuple_add F.entry_tuple_add (F.args_tuple_add_2 _ _) (AutoSeq1.tuple___add___tuple_tuple_1 a items 0 b items2 0 e1 e2)
    ⟨h5,h7,⟨.tup xs,σ,ha',by simpa using h,q.toks _,Ev.refl _⟩⟩
  ·refine P.add_tuple h5 h7 e1 e2 ?_ (by rw[sizeLine_eq];exact Ot hz hlen hlen2)
   have m:=q.more (s':={s with heap:=s.heap.push {cls:=.type "tuple",data:=.seq (items++items2)} }) rfl rfl λ _ _ z=>Heap.get?_push_of_some _ z
   exact ⟨.tup (xs++ys),σ,dN.mpr ⟨_,items++items2,rfl,Heap.get?_push_size _ rfl,by rw[Array.size_append];exact Ou hz hlen hlen2,by simpa using (h6.append h8).ev m.2⟩,h,m.1,m.2⟩
theorem bK (hl:σ l=some (t,.list xs)) (hz:xs.length≤10000000) (h:Φ (.int xs.length) σ):WC c env loc σ (.builtin "len") [.ref l] Φ:=λ ρ s vs q hv=>by
 obtain ⟨v,vr,rfl,h1,h2⟩:=hv.cons_inv
 rw[h2.nil_inv];rw[VIs_ref] at h1;subst h1
 obtain ⟨items,n,h5,h6⟩:=q.obj l t _ hl
 have hlen:=h6.length
 rw[Array.length_toList] at hlen
 refine call_len_list ⟨_,h5,rfl,n,rfl⟩ (by exact S1 hz hlen) ⟨.int xs.length,σ,by simp[hlen],h,q.toks _,Ev.refl _⟩
theorem oZ {h:Heap} {x y:Option Int} {u v:Value} (hx:bH h (Ab x) u) (hy:bH h (Ab y) v):MeetsSeq.EqGives u v (x==y):=by
 rcases kG hx with ⟨rfl,rfl⟩ | ⟨i,t,rfl,rfl⟩<;>rcases kG hy with ⟨rfl,rfl⟩ | ⟨j,u,rfl,rfl⟩
 ·exact λ prog w A E s Q k=>by
   unfold eqBool
   refine wpAny_holding ?_
   refine wpAny_ite_split (λ _=>wpAny_bind (wpAny_rule (wpAny_pure k))) (λ hab=>absurd rfl hab)
 ·exact λ prog w A E s Q k=>SeqAt.EqAt.none_int j u prog w E Q k
 ·exact λ prog w A E s Q k=>SeqAt.EqAt.int_none i t prog w E Q k
 ·rw[Option.some_beq_some];exact MeetsSeq.EqGives.int i j t u
theorem Cg {h:Heap} {e:Value→Bool} {f:Option Int→Bool} (he:∀x v,bH h (Ab x) v→e v=f x):∀{os:List (Option Int)} {vs:List Value},aO h (os.map Ab) vs→vs.any e=os.any f
 | [],vs,q=>by rw[q.nil_inv];rfl
 | o::r,vs,q=>by
  obtain ⟨v,vr,rfl,h2,h3⟩:=q.cons_inv
  simp only[List.any_cons,he o v h2,Cg he h3]
theorem nI {os:List (Option Int)} (hl:σ l=some (t,.list (os.map Ab))) (h:Φ (.bool (os.any (· ==none))) σ):W2 c env bH loc σ .none (.ref l) (compareOp .In) Φ:=λ ρ s va vb q ha hb=>by
 rw[VIs_none] at ha;rw[VIs_ref] at hb;subst ha hb
 obtain ⟨items,n,h5,h6⟩:=q.obj l t _ hl
 refine SeqRoads2.in_list (λ v=>v== .none) (λ y hy=>?_) h5 ?_
 ·obtain ⟨i,hi,rfl⟩:=Array.mem_iff_getElem.mp hy
  obtain ⟨x,hx,hv⟩:=h6.get' (i:=i) (v:=items[i]) (by simp)
  rw[List.getElem?_map] at hx
  obtain ⟨o,ho,rfl⟩:=Option.map_eq_some_iff.mp hx
  have e:=oZ (y:=none) hv (show bH s.heap (Ab none) .none by simp[Ab])
  have e2:(items[i]==Value.none)=(o==none):=by
   rcases kG hv with ⟨rfl,z⟩ | ⟨j,u,rfl,z⟩<;>rw[z]<;>rfl
  rw[e2];exact e
 ·refine ⟨.bool (os.any (· ==none)),σ,?_,h,q,Ev.refl _⟩
  rw[VIs_bool,←Array.any_toList,Cg (f:=(· ==none)) (λ x v hv=>?_) h6]
  rcases kG hv with ⟨rfl,rfl⟩ | ⟨j,u,rfl,rfl⟩<;>rfl
theorem Ep {l2:Addr} {t2:Tg} {xs ys:List (Option Int)} (hl:σ l=some (t,.list (xs.map Ab))) (hl2:σ l2=some (t2,.list (ys.map Ab))) (h:Φ (.bool (xs==ys)) σ):
  W2 c env bH loc σ (.ref l) (.ref l2) (compareOp .Eq) Φ:=λ ρ s va vb q ha hb=>by
 rw[VIs_ref] at ha hb;subst ha hb
 obtain ⟨items,n,h5,h6⟩:=q.obj l t _ hl
 obtain ⟨items2,n2,h7,h8⟩:=q.obj l2 t2 _ hl2
 have hlen:=h6.length
 have hlen2:=h8.length
 rw[Array.length_toList,List.length_map] at hlen hlen2
 have hu:c.A.units<cLine:=by have:=q.base.room;exact Q4 this
 by_cases e:items.size=items2.size
 ·refine P.eq_list (e:=λ j=>xs[j]? ==ys[j]?) h5 h7 e (λ j k1 k2=>?_) hu ?_
  ·obtain ⟨x,hx,hv⟩:=h6.get' (i:=j) (v:=items[j]) (by simp)
   obtain ⟨y,hy,hw⟩:=h8.get' (i:=j) (v:=items2[j]) (by simp)
   rw[List.getElem?_map] at hx hy
   obtain ⟨o,ho,rfl⟩:=Option.map_eq_some_iff.mp hx
   obtain ⟨p,hp,rfl⟩:=Option.map_eq_some_iff.mp hy
   rw[ho,hp,Option.some_beq_some]
   exact oZ hv hw
  ·refine ⟨.bool (xs==ys),σ,?_,h,q,Ev.refl _⟩
   rw[VIs_bool]
   congr 1
   rw[Bool.eq_iff_iff,List.all_eq_true,beq_iff_eq]
   constructor
   ·intro k
    refine List.ext_getElem? λ j=>?_
    by_cases hj:j<items.size
    ·exact eq_of_beq (k j (List.mem_range.mpr hj))
    ·rw[List.getElem?_eq_none (by exact Px hlen hj),List.getElem?_eq_none (by exact Oc hlen2 e hj)]
   ·rintro rfl j _;exact beq_self_eq_true _
 ·refine P.eq_list_lengths h5 h7 (by simpa using e) hu ⟨.bool (xs==ys),σ,?_,h,q,Ev.refl _⟩
  rw[VIs_bool]
  congr 1
  symm
  rw[beq_eq_false_iff_ne]
  rintro rfl
  exact Py hlen e hlen2
theorem Ej {k:Int} {x:AV} {ρ:dC} {s:Shared} {u:Tok} {v:Value} {Q:Unit→Shared→Prop} (q:bJ c env loc σ ρ s) (hl:σ l=some (t,.list xs)) (h0:0≤k) (hi:k<xs.length) (hz:xs.length≤10000000) (hv:bH s.heap x v)
  (h:∀h',bJ c env loc (σ.put l (t,.list (xs.set k.toNat x))) ρ {s with heap:=h'}→Ev s.heap h'→Q () {s with heap:=h'}):wpAny (MM c) c.A (setItem (.ref l) (.int k u) v) Q gD s:=by
 obtain ⟨items,n,h5,h6⟩:=q.obj l t _ hl
 have hlen:=h6.length
 rw[Array.length_toList] at hlen
 have isl:s.heap.IsList l items:=⟨_,h5,rfl,n,rfl⟩
 unfold setItem
 refine wpAny_holding ?_
 refine wpAny_bind (wpAny_sequenceKey isl.typeIs (by decide) ?_)
 refine wpAny_bind (wpAny_callSpecial?_slot (name:=Str.ofString "__setitem__") isl.typeIs slot_list_setitem (wpAny_call_entry slot_list_setitem isl.typeIs entry_list_setitem ?_ (args_list_setitem _ _ _)))
 show wpAny _ _ (Builtin.List.listSubscript? (.int k u)>>=_) _ _ s
 refine wpAny_bind (wpAny_listSubscript_int (fitsIndex_of h0 (by exact Mv hi hz)) ?_)
 obtain ⟨j,rfl⟩:=Int.eq_ofNat_of_zero_le h0
 have hj:j<items.size:=by exact P7 hlen hi
 have hx':items[j]? =some items[j]:=Array.getElem?_eq_getElem hj
 show wpAny _ _ ((seqItemAt l j>>=λ r=>pure (r.map (j, ·)))>>=_) _ _ s
 refine wpAny_bind (wpAny_bind (wpAny_seqItemAt h5 rfl (wpAny_pure ?_)))
 rw[hx']
 show wpAny _ _ (setSeqItemAt l j v>>=_) _ _ s
 have z:=jZ (tk:=s.toks) (its:=items) (ys:=xs.set j x) (f:=λ a=>a.setIfInBounds j v) q hl h5 (by simpa using h6.set hv)
 refine wpAny_bind (wpAny_setSeqItemAt h5 rfl ?_)
 first
  | exact wpAny_bind (wpAny_pure (wpAny_pure ⟨.none,rfl,wpAny_pure (h _ z.1 z.2)⟩))
  | exact wpAny_pure ⟨.none,rfl,wpAny_pure (h _ z.1 z.2)⟩
noncomputable def Gn (c:Cx) (env:Env) (loc:aV) (σ:aF) (a k v:AV) (Φ:aV→aF→Prop):Prop:=
 ∀ρ s va vk vv,bJ c env loc σ ρ s→bH s.heap a va→bH s.heap k vk→bH s.heap v vv→wpAny (MM c) c.A (setItem va vk vv) (cY c env ρ s.heap (λ _ (_:Unit) (_:Unit)=>True) λ _=>Φ) gD s
noncomputable abbrev CL (c:Cx) (env:Env) (loc:aV) (av:AV) (Φ:aV→aF→Prop) (a:AV):AV→aF→Prop:=λ k σ2=>Gn c env loc σ2 a k av Φ
noncomputable abbrev KSt (c:Cx) (env:Env) (loc:aV) (i:Expr) (av:AV) (Φ:aV→aF→Prop):AV→aF→Prop:=λ a σ1=>WE c env loc σ1 i (CL c env loc av Φ a)
theorem gU {o i:Expr} {pos:Pos} {av:AV} {Φ:aV→aF→Prop} (h:WE c env loc σ o (KSt c env loc i av Φ)):WA c env loc σ (.Subscript o i pos) av Φ:=λ ρ s v q hv=>by
 rw[assign_Subscript]
 refine wpAny_bind (wpAny_holding (hK (h ρ s q) (λ vo s1 a σ1 ha h₁ q1 e₁=>?_)))
 refine wpAny_bind (wpAny_holding (hK (h₁ ρ s1 q1) (λ vi s2 k σ2 hk h₂ q2 e₂=>?_)))
 refine wpAny_bind (wpAny_standAt (wpAny_bind (wpAny_holding (wpAny_mono (h₂ ρ s2 vo vi v q2 (ha.ev e₂) hk (hv.ev (e₁.trans e₂))) (λ _ s3 z=>wpAny_release (z.ev (e₁.trans e₂))) λ _ _ e=>e.elim))))
theorem uI {i:Nat} {x:AV} {Φ:aV→aF→Prop} (hl:σ l=some (t,.list xs)) (hi:i<xs.length) (hz:xs.length≤10000000) (h:Φ loc (σ.put l (t,.list (xs.set i x)))):Gn c env loc σ (.ref l) (.int i) x Φ:=λ ρ s va vk vv q ha hk hv=>by
 rw[VIs_ref] at ha;subst ha
 rw[VIs_int] at hk
 obtain ⟨u,rfl⟩:=hk
 exact Ej q hl (by exact Int.natCast_nonneg _) (by exact Int.ofNat_le.mpr ‹_›) hz hv λ h' q' e=>⟨(),loc,_,trivial,h,q',e⟩
end
noncomputable def gY (es:List (Int×AV)) (k:Int):Option AV:=(es.find? λ e=>decide (e.1=k)).map (·.2)
noncomputable def pE (es:List (Int×AV)) (k:Int) (v:AV):List (Int×AV):=if es.any (λ e=>decide (e.1=k)) then es.map (λ e=>if e.1=k then (e.1,v) else e) else es++[(k,v)]
noncomputable def A7 (es:List (Int×AV)) (k:Int):List (Int×AV):=es.filter λ e=>decide (e.1≠k)
inductive KV (h:Heap):List (Int×AV)→List (Int×Value)→Prop
 | nil:KV h [] []
 | cons {k:Int} {x:AV} {v:Value} {es:List (Int×AV)} {kvs:List (Int×Value)} (hv:bH h x v) (r:KV h es kvs):KV h ((k,x)::es) ((k,v)::kvs)
theorem KV.of {h:Heap}:∀{es:List (Int×AV)} {kvs:List (Int×Value)},kvs.map (·.1)=es.map (·.1)→aO h (es.map (·.2)) (kvs.map (·.2))→KV h es kvs
 | [],[],_,_=>.nil
 | [],_::_,e,_=>by simp at e
 | _::_,[],e,_=>by simp at e
 | (k,x)::es,(k',v)::kvs,e,q=>by
  simp only[List.map_cons,List.cons.injEq] at e q
  obtain ⟨rfl,e⟩:=e
  obtain ⟨u,ur,eu,h2,h3⟩:=q.cons_inv
  simp only[List.cons.injEq] at eu
  obtain ⟨rfl,rfl⟩:=eu
  exact .cons h2 (KV.of e h3)
section
variable {h:Heap} {es:List (Int×AV)} {kvs:List (Int×Value)}
theorem KV.keys (q:KV h es kvs):kvs.map (·.1)=es.map (·.1):=by
 induction q with
 | nil=>rfl
 | cons _ _ ih=>simp[ih]
theorem KV.vals (q:KV h es kvs):aO h (es.map (·.2)) (kvs.map (·.2)):=by
 induction q with
 | nil=>exact .nil
 | cons hv _ ih=>exact .cons hv ih
theorem KV.length (q:KV h es kvs):kvs.length=es.length:=by
 induction q with
 | nil=>rfl
 | cons _ _ ih=>simp[ih]
theorem KV.get (q:KV h es kvs) (k:Int):(gY es k=none∧valueAt kvs k=none)∨∃x v,gY es k=some x∧valueAt kvs k=some v∧bH h x v:=by
 induction q with
 | nil=>exact .inl ⟨rfl,rfl⟩
 | @cons k' x v es kvs hv r ih=>
  unfold gY valueAt at ih⊢
  by_cases e:k'=k
  ·exact .inr ⟨x,v,by simp[e],by simp[e],hv⟩
  ·simpa [List.find?_cons,e] using ih
theorem KV.any (q:KV h es kvs) (k:Int):kvs.any (λ kv=>decide (kv.1=k))=es.any (λ e=>decide (e.1=k)):=by
 induction q with
 | nil=>rfl
 | cons _ _ ih=>simp[ih]
theorem KV.ev {h':Heap} (e:Ev h h') (q:KV h es kvs):KV h' es kvs:=by
 induction q with
 | nil=>exact .nil
 | cons hv _ ih=>exact .cons (hv.ev e) ih
theorem KV.app (q:KV h es kvs) {es':List (Int×AV)} {kvs':List (Int×Value)} (r:KV h es' kvs'):KV h (es++es') (kvs++kvs'):=by
 induction q with
 | nil=>exact r
 | cons hv _ ih=>exact .cons hv ih
theorem KV.upd (q:KV h es kvs) {k:Int} {x:AV} {v:Value} (hv:bH h x v):KV h (es.map (λ e=>if e.1=k then (e.1,x) else e)) (kvs.map (λ kv=>if kv.1=k then (kv.1,v) else kv)):=by
 induction q with
 | nil=>exact .nil
 | @cons k' y u es kvs hu _ ih=>
  simp only[List.map_cons]
  by_cases e:k'=k
  ·simp only[e,if_true];exact .cons hv ih
  ·simp only[e,if_false];exact .cons hu ih
theorem KV.put (q:KV h es kvs) {k:Int} {x:AV} {v:Value} (hv:bH h x v):KV h (pE es k x) (stored kvs k v):=by
 unfold pE stored
 rw[q.any k]
 split
 ·exact q.upd hv
 ·exact q.app (.cons hv .nil)
theorem KV.del (q:KV h es kvs) (k:Int):KV h (A7 es k) (without kvs k):=by
 unfold A7 without
 induction q with
 | nil=>exact .nil
 | @cons k' y u es kvs hu _ ih=>
  by_cases e:k'=k
  ·simpa [List.filter_cons,e] using ih
  ·simp only[List.filter_cons,ne_eq,e,not_false_eq_true,decide_true,if_true]
   exact .cons hu ih
end
section
variable {c:Cx} {env:Env} {loc:aV} {σ:aF} {Φ:AV→aF→Prop} {d:Addr} {t:Tg} {es:List (Int×AV)} {k:Int}
theorem nJ {ρ:dC} {s:Shared} (q:Sat0 c σ ρ s) {y:Tg×AO} (hd:σ d=some y):(d==sysModules)=false:=by
 rw[beq_eq_false_iff_ne]
 rintro rfl
 have h1:=(q.own _ _ hd).1
 have h2:(KK c.w).lookup sysModules=some (boot_o_1 c.w.params):=by kernel_rfl
 rw[q.base.kx _ _ h2] at h1
 cases h1
theorem uO {name:Str} {id:String} (hd:σ d=some (t,.idict es)) (slot:Slot "dict" name id) (hty:typeOf (.builtin id)=pure (.type "method_descriptor")):fP c σ (.ref d) name (.builtin id):=
 λ env loc ρ s v pl Q q hv h=>by
  rw[VIs_ref] at hv;subst hv
  obtain ⟨kvs,h1,h2,h3⟩:=q.obj d t _ hd
  obtain ⟨o,ess,ep,ho,hc,r⟩:=h1
  exact getMethod_builtin ⟨o,ho,hc.1⟩ PySem.F.plainAttrs_dict slot hty (λ a e=>by cases e;exact ⟨o,ho,hc.2.1⟩) h
theorem iA {h:Heap} {i:Int} {v:Value} (p:Program) (w:World) (q:bH h (.int i) v):(intKind p w).is i v=true:=by
 rw[VIs_int] at q;obtain ⟨u,rfl⟩:=q;exact intKind_is p w i u
theorem zS {h:Heap} {o:Option AV} {ov:Option Value} {x:AV} {v:Value} (q:(o=none∧ov=none)∨∃y u,o=some y∧ov=some u∧bH h y u) (hx:bH h x v):bH h (o.getD x) (ov.getD v):=by
 rcases q with ⟨rfl,rfl⟩ | ⟨y,u,rfl,rfl,z⟩
 ·exact hx
 ·exact z
theorem iJ (hd:σ d=some (t,.idict es)) (h:Φ ((gY es k).getD .none) σ):WC c env loc σ (.builtin "dict.get") [.ref d,.int k] Φ:=λ ρ s vs q hv=>by
 obtain ⟨v,vr,rfl,h1,h2⟩:=hv.cons_inv
 obtain ⟨u,ur,rfl,h3,h4⟩:=h2.cons_inv
 rw[h4.nil_inv];rw[VIs_ref] at h1;subst h1
 obtain ⟨kvs,h5,h6,h7⟩:=q.obj d t _ hd
 refine call_meetsIn F.slot_dict_get h5.mapOf.typeIs F.entry_dict_get (F.args_dict_get_2 _ _) (meets_dict_get (intKind c.prog c.w) d (iA c.prog c.w h3) (nJ q.toSat0 hd)) ⟨_,h5.mapOf,?_⟩
 exact ⟨_,σ,zS ((KV.of h6 h7).get k) (by simp),h,q.toks _,Ev.refl _⟩
theorem G7 {x:AV} (hd:σ d=some (t,.idict es)) (h:Φ ((gY es k).getD x) σ):WC c env loc σ (.builtin "dict.get") [.ref d,.int k,x] Φ:=λ ρ s vs q hv=>by
 obtain ⟨v,vr,rfl,h1,h2⟩:=hv.cons_inv
 obtain ⟨u,ur,rfl,h3,h4⟩:=h2.cons_inv
 obtain ⟨u2,ur2,rfl,h8,h9⟩:=h4.cons_inv
 rw[h9.nil_inv];rw[VIs_ref] at h1;subst h1
 obtain ⟨kvs,h5,h6,h7⟩:=q.obj d t _ hd
 refine call_meetsIn F.slot_dict_get h5.mapOf.typeIs F.entry_dict_get (F.args_dict_get_3 _ _ _) (meets_dict_get_default (intKind c.prog c.w) d (iA c.prog c.w h3) (nJ q.toSat0 hd) u2) ⟨_,h5.mapOf,?_⟩
 exact ⟨_,σ,zS ((KV.of h6 h7).get k) h8,h,q.toks _,Ev.refl _⟩
theorem uZ {ρ:dC} {s:Shared} {es':List (Int×AV)} {kvs':List (Int×Value)} {h':Heap} {tk:Nat} (q:bJ c env loc σ ρ s) (hd:σ d=some (t,.idict es)) (hm:h'.DictOf (intKind c.prog c.w) d kvs') (hs:Heap.SameBut d s.heap h')
  (kv:KV s.heap es' kvs'):bJ c env loc (σ.put d (t,.idict es')) ρ {s with heap:=h',toks:=tk}∧Ev s.heap h':=by
 have ev:=Ev.ofBut (q.obj d t _ hd) hs.extBut
 have kv':=kv.ev ev
 exact q.upd (s':={s with heap:=h',toks:=tk}) rfl rfl hd hs.extBut ⟨kvs',hm,kv'.keys,kv'.vals⟩
theorem Br {x:AV} (hd:σ d=some (t,.idict es)) (hz:es.length≤10000000) (hx:gY es k=some x) (h:Φ x (σ.put d (t,.idict (A7 es k)))):WC c env loc σ (.builtin "dict.pop") [.ref d,.int k] Φ:=λ ρ s vs q hv=>by
 obtain ⟨v,vr,rfl,h1,h2⟩:=hv.cons_inv
 obtain ⟨u,ur,rfl,h3,h4⟩:=h2.cons_inv
 rw[h4.nil_inv];rw[VIs_ref] at h1;subst h1
 obtain ⟨kvs,h5,h6,h7⟩:=q.obj d t _ hd
 have kv:=KV.of h6 h7
 have h3':=iA c.prog c.w h3
 rw[VIs_int] at h3
 obtain ⟨tk,rfl⟩:=h3
 rcases kv.get k with ⟨e,_⟩ | ⟨y,v,e1,e2,e3⟩
 ·rw[e] at hx;cases hx
 ·rw[e1] at hx;cases hx
  refine call_meetsIn F.slot_dict_pop h5.mapOf.typeIs F.entry_dict_pop (F.args_dict_pop_2 _ _) (meets_dict_pop_there (intKind c.prog c.w) d h3' [] (.inl rfl) rfl) ⟨kvs,v,h5,by rw[sizeLine_eq,kv.length];exact Hs hz,e2,λ h' hm hs=>?_⟩
  have z:=uZ (tk:=s.toks+1) q hd hm hs (kv.del k)
  exact ⟨x,_,e3.ev z.2,h,z.1,z.2⟩
theorem fN {x:AV} (hd:σ d=some (t,.idict es)) (hx:gY es k=some x) (h:Φ x σ):WG c env loc σ (.ref d) (.int k) Φ:=λ ρ s va vk q ha hk=>by
 rw[VIs_ref] at ha;subst ha
 obtain ⟨kvs,h5,h6,h7⟩:=q.obj d t _ hd
 have kv:=KV.of h6 h7
 rcases kv.get k with ⟨e,_⟩ | ⟨y,v,e1,e2,e3⟩
 ·rw[e] at hx;cases hx
 ·rw[e1] at hx;cases hx
  exact ⟨"dict",_,slot_dict_getitem.lookup,h5.mapOf.typeIs,wpAny_getItem_of (iA c.prog c.w hk) h5.mapOf e2 ⟨x,σ,e3,h,q.toks _,Ev.refl _⟩⟩
theorem C1 {x:AV} {Φ:aV→aF→Prop} (hd:σ d=some (t,.idict es)) (hz:es.length≤10000000) (h:Φ loc (σ.put d (t,.idict (pE es k x)))):Gn c env loc σ (.ref d) (.int k) x Φ:=λ ρ s va vk vv q ha hk hv=>by
 rw[VIs_ref] at ha;subst ha
 obtain ⟨kvs,h5,h6,h7⟩:=q.obj d t _ hd
 have kv:=KV.of h6 h7
 refine wpAny_setItem_pairs (iA c.prog c.w hk) h5 (λ h' hm hs=>?_) (by rw[sizeLine_eq,kv.length];exact Hs hz)
 have z:=uZ (tk:=s.toks+1) q hd hm hs (kv.put (k:=k) hv)
 exact ⟨(),loc,_,trivial,h,z.1,z.2⟩
theorem A6 {h:Heap} {es:List (Int×AV)} {kvs:List (Int×Value)} (kv:KV h es kvs) (k:Int):(valueAt kvs k).isSome=(gY es k).isSome:=by
 rcases kv.get k with ⟨e1,e2⟩ | ⟨y,v,e1,e2,_⟩<;>(rw[e1,e2];rfl)
theorem uL (hd:σ d=some (t,.idict es)) (h:Φ (.bool (!(gY es k).isSome)) σ):W2 c env bH loc σ (.int k) (.ref d) (compareOp .NotIn) Φ:=λ ρ s va vb q ha hb=>by
 rw[VIs_ref] at hb;subst hb
 obtain ⟨kvs,h5,h6,h7⟩:=q.obj d t _ hd
 exact wpAny_notIn_of (iA c.prog c.w ha) (nJ q.toSat0 hd) h5.mapOf ⟨.bool (!(gY es k).isSome),σ,by rw[VIs_bool,A6 (KV.of h6 h7) k],h,q.toks _,Ev.refl _⟩
theorem Ky (p:Program) (w:World) (h:Heap):(h.push {cls:=.type "dict",data:=.dict #[]}).DictOf (intKind p w) h.objs.size []:=
 ⟨_,#[],0,Heap.get?_push_size _ rfl,⟨rfl,rfl,rfl⟩,rfl,λ _ he=>by simp at he,Pairs.nil,List.nodup_nil⟩
theorem iF {pos:Pos} (t:Tg) (h:∀D,σ D=none→Φ (.ref D) (σ.put D (t,.idict []))):WE c env loc σ (.Dict [] [] pos) Φ:=λ ρ s q=>by
 refine wpAny_Dict_empty ?_
 have z:=q.new (s':={s with heap:=s.heap.push {cls:=.type "dict",data:=.dict #[]} }) (a:=s.heap.objs.size) (y:=(t,.idict [])) rfl rfl (Nat.le_refl _) (λ _ _ z=>Heap.get?_push_of_some _ z) ⟨[],Ky _ _ _,rfl,.nil⟩
 exact ⟨.ref _,_,by simp,h _ z.2.2,z.1,z.2.1⟩
end
noncomputable abbrev cH:=List bZ
noncomputable def cH.av (k:cH):AV:=.tup (k.map bZ.av)
noncomputable def kH (es:List (cH×AV)) (k:cH):Option AV:=(es.find? λ e=>decide (e.1=k)).map (·.2)
noncomputable def Ak (es:List (cH×AV)) (k:cH) (v:AV):List (cH×AV):=if (kH es k).isSome then es.map (λ e=>if e.1=k then (e.1,v) else e) else es++[(k,v)]
inductive TV (h:Heap):List (cH×AV)→List (cH×Addr×Value)→Prop
 | nil:TV h [] []
 | cons {k:cH} {x:AV} {a:Addr} {v:Value} {es:List (cH×AV)} {xs:List (cH×Addr×Value)} (hv:bH h x v) (ha:∃items,h.get? a=some (cB items)) (r:TV h es xs):TV h ((k,x)::es) ((k,a,v)::xs)
theorem TV.of {h:Heap}:∀{es:List (cH×AV)} {xs:List (cH×Addr×Value)},xs.map (·.1)=es.map (·.1)→aO h (es.map (·.2)) (xs.map (·.2.2))→(∀x∈xs,∃items,h.get? x.2.1=some (cB items))→TV h es xs
 | [],[],_,_,_=>.nil
 | [],_::_,e,_,_=>by simp at e
 | _::_,[],e,_,_=>by simp at e
 | (k,x)::es,(k',a,v)::xs,e,q,ht=>by
  simp only[List.map_cons,List.cons.injEq] at e q
  obtain ⟨rfl,e⟩:=e
  obtain ⟨u,ur,eu,h2,h3⟩:=q.cons_inv
  simp only[List.cons.injEq] at eu
  obtain ⟨rfl,rfl⟩:=eu
  exact .cons h2 (ht (k',a,v) List.mem_cons_self) (TV.of e h3 λ y hy=>ht y (List.mem_cons_of_mem _ hy))
section
variable {h:Heap} {es:List (cH×AV)} {xs:List (cH×Addr×Value)}
theorem TV.keys (q:TV h es xs):xs.map (·.1)=es.map (·.1):=by
 induction q with
 | nil=>rfl
 | cons _ _ _ ih=>simp[ih]
theorem TV.vals (q:TV h es xs):aO h (es.map (·.2)) (xs.map (·.2.2)):=by
 induction q with
 | nil=>exact .nil
 | cons hv _ _ ih=>exact .cons hv ih
theorem TV.tups (q:TV h es xs):∀x∈xs,∃items,h.get? x.2.1=some (cB items):=by
 induction q with
 | nil=>intro x hx;cases hx
 | cons _ ha _ ih=>intro x hx;rcases List.mem_cons.mp hx with rfl | hx;exact ha;exact ih x hx
theorem TV.length (q:TV h es xs):xs.length=es.length:=by
 induction q with
 | nil=>rfl
 | cons _ _ _ ih=>simp[ih]
theorem TV.get (q:TV h es xs) (k:cH):(kH es k=none∧atKey xs k=none)∨∃x p,kH es k=some x∧atKey xs k=some p∧bH h x p.2:=by
 induction q with
 | nil=>exact .inl ⟨rfl,rfl⟩
 | @cons k' x a v es xs hv ha r ih=>
  unfold kH atKey at ih⊢
  by_cases e:k'=k
  ·exact .inr ⟨x,(a,v),by simp[e],by simp[e],hv⟩
  ·simpa [List.find?_cons,e] using ih
theorem TV.ev {h':Heap} (e:Ev h h') (q:TV h es xs):TV h' es xs:=by
 induction q with
 | nil=>exact .nil
 | cons hv ha _ ih=>exact .cons (hv.ev e) (let ⟨i,hi⟩:=ha;⟨i,e _ _ hi⟩) ih
theorem TV.app (q:TV h es xs) {es':List (cH×AV)} {xs':List (cH×Addr×Value)} (r:TV h es' xs'):TV h (es++es') (xs++xs'):=by
 induction q with
 | nil=>exact r
 | cons hv ha _ ih=>exact .cons hv ha ih
theorem TV.upd (q:TV h es xs) {k:cH} {x:AV} {v:Value} (hv:bH h x v):TV h (es.map (λ e=>if e.1=k then (e.1,x) else e)) (xs.map (putAt k v)):=by
 induction q with
 | nil=>exact .nil
 | @cons k' y a u es xs hu ha _ ih=>
  simp only[List.map_cons]
  unfold putAt at ih⊢
  by_cases e:k'=k
  ·simp only[e,if_true];exact .cons hv ha ih
  ·simp only[e,if_false];exact .cons hu ha ih
theorem TV.isSome (q:TV h es xs) (k:cH):(atKey xs k).isSome=(kH es k).isSome:=by
 rcases q.get k with ⟨e1,e2⟩ | ⟨x,p,e1,e2,_⟩<;>(rw[e1,e2];rfl)
theorem TV.put (q:TV h es xs) {k:cH} {x:AV} {a:Addr} {v:Value} (hv:bH h x v) (ha:∃items,h.get? a=some (cB items)):TV h (Ak es k x) (storedH xs k a v):=by
 unfold Ak storedH
 rw[q.isSome k]
 split
 ·exact q.upd hv
 ·exact q.app (.cons hv ha .nil)
end
section
variable {c:Cx} {env:Env} {loc:aV} {σ:aF} {Φ:AV→aF→Prop} {d:Addr} {t:Tg} {es:List (cH×AV)} {k:cH}
theorem mB {ρ:dC} {s:Shared} (q:Sat0 c σ ρ s):c.A.in1.units<cLine:=by
 have:=q.base.room
 rw[units_in1];exact Q6 this
theorem Ax {name:Str} {id:String} (hd:σ d=some (t,.tdict es)) (slot:Slot "dict" name id) (hty:typeOf (.builtin id)=pure (.type "method_descriptor")):fP c σ (.ref d) name (.builtin id):=
 λ env loc ρ s v pl Q q hv h=>by
  rw[VIs_ref] at hv;subst hv
  obtain ⟨xs,h1,h2,h3⟩:=q.obj d t _ hd
  obtain ⟨o,ess,ep,ho,hc,r⟩:=h1
  exact getMethod_builtin ⟨o,ho,hc.1⟩ PySem.F.plainAttrs_dict slot hty (λ a e=>by cases e;exact ⟨o,ho,hc.2.1⟩) h
theorem qL {ρ:dC} {s:Shared} {es':List (cH×AV)} {xs':List (cH×Addr×Value)} {h':Heap} {tk:Nat} (q:bJ c env loc σ ρ s) (hd:σ d=some (t,.tdict es)) (hm:h'.DictOfH (aW c.prog c.w) d xs') (hs:Heap.SameBut d s.heap h')
  (kv:TV s.heap es' xs'):bJ c env loc (σ.put d (t,.tdict es')) ρ {s with heap:=h',toks:=tk}∧Ev s.heap h':=by
 have ev:=Ev.ofBut (q.obj d t _ hd) hs.extBut
 have kv':=kv.ev ev
 exact q.upd (s':={s with heap:=h',toks:=tk}) rfl rfl hd hs.extBut ⟨xs',hm,kv'.keys,kv'.vals,kv'.tups⟩
theorem Kt (hd:σ d=some (t,.tdict es)) (h:Φ (.bool (kH es k).isSome) σ):W2 c env bH loc σ (cH.av k) (.ref d) (compareOp .In) Φ:=λ ρ s va vb q ha hb=>by
 rw[VIs_ref] at hb;subst hb
 obtain ⟨xs,h5,h6,h7,h8⟩:=q.obj d t _ hd
 obtain ⟨a,items,rfl,h9,h10,h11⟩:=iN (prog:=c.prog) (w:=c.w) ha
 exact wpAny_in_heap (mB q.toSat0) h11 (nJ q.toSat0 hd) h5 ⟨.bool (kH es k).isSome,σ,by rw[VIs_bool,(TV.of h6 h7 h8).isSome k],h,q.toks _,Ev.refl _⟩
theorem A5 {x:AV} (hd:σ d=some (t,.tdict es)) (hx:kH es k=some x) (h:Φ x σ):WG c env loc σ (.ref d) (cH.av k) Φ:=λ ρ s va vk q ha hk=>by
 rw[VIs_ref] at ha;subst ha
 obtain ⟨xs,h5,h6,h7,h8⟩:=q.obj d t _ hd
 obtain ⟨a,items,rfl,h9,h10,h11⟩:=iN (prog:=c.prog) (w:=c.w) hk
 rcases (TV.of h6 h7 h8).get k with ⟨e,_⟩ | ⟨y,p,e1,e2,e3⟩
 ·rw[e] at hx;cases hx
 ·rw[e1] at hx;cases hx
  exact ⟨"dict",_,slot_dict_getitem.lookup,h5.typeIs,wpAny_getItem_heap (mB q.toSat0) h11 h5 e2 ⟨x,σ,e3,h,q.toks _,Ev.refl _⟩⟩
theorem Ap {x:AV} {Φ:aV→aF→Prop} (hd:σ d=some (t,.tdict es)) (hz:es.length≤10000000) (h:Φ loc (σ.put d (t,.tdict (Ak es k x)))):Gn c env loc σ (.ref d) (cH.av k) x Φ:=λ ρ s va vk vv q ha hk hv=>by
 rw[VIs_ref] at ha;subst ha
 obtain ⟨xs,h5,h6,h7,h8⟩:=q.obj d t _ hd
 obtain ⟨a,items,rfl,h9,h10,h11⟩:=iN (prog:=c.prog) (w:=c.w) hk
 have kv:=TV.of h6 h7 h8
 refine wpAny_setItem_heap (mB q.toSat0) h11 h5 (λ h' hm hs=>?_) (by rw[sizeLine_eq,kv.length];exact Hs hz)
 have z:=qL (tk:=s.toks+(aW c.prog c.w).draws k) q hd hm hs (kv.put (k:=k) hv ⟨items,h9⟩)
 exact ⟨(),loc,_,trivial,h,z.1,z.2⟩
theorem pC {A:Around} {E:Value→Shared→Prop} {s:Shared} {a:Addr} {xs:List (cH×Addr×Value)} {v:Value} {Q:Value→Shared→Prop} {prog:Program} {w:World} (hu:A.units<cLine) (gO:(aW prog w).is s.heap k a) (hm:s.heap.DictOfH (aW prog w) d xs)
  (hold:∀p,atKey xs k=some p→Q p.2 {s with toks:=s.toks+(aW prog w).draws k})
  (hnew:atKey xs k=none→∀h',h'.DictOfH (aW prog w) d (storedH xs k a v)→Heap.SameBut d s.heap h'→Q v {s with heap:=h',toks:=s.toks+(aW prog w).draws k})
  (hsz:xs.length≤sizeLine):wpAny (model prog w) A (dictSetDefault d (.ref a) v) Q E s:=by
 obtain ⟨o,es,ep,ho,hc,hdat,he,his,hn⟩:=hm
 unfold dictSetDefault
 refine wpAny_holding ?_
 refine wpAny_bind ((aW prog w).pyHash hu gO ?_)
 refine wpAny_bind (wpAny_dictFind_heap (knd:=aW prog w) (s:={s with toks:=s.toks+(aW prog w).draws k}) hu gO ho hdat he his hn ?_ ?_)
 ·intro hno
  have hk0:=atKey_none_of_get hno
  refine wpAny_bind (wpAny_rule (wpAny_bind (wpAny_updateDictKeys (hz:=by have e:=size_of_entries he;exact Pb hsz e) (s:={s with toks:=s.toks+(aW prog w).draws k}) ho hdat
   (wpAny_pure (hnew hk0 _ ⟨_,_,ep+1,Heap.get?_update_self _ ho (Obj.isFreed_of_dict (Obj.data_mapDictKeys hdat _)),hc.mapDictKeys _,Obj.data_mapDictKeys hdat _,?_,?_,?_⟩ (Heap.SameBut.update ..))))))
  ·rw[storedH_new hk0];simp[he,entryOfKey]
  ·rw[storedH_new hk0]
   intro x hx
   rcases List.mem_append.mp hx with hx | hx
   ·exact (aW prog w).keeps (his x hx) ho hdat (Heap.SameBut.update ..)
   ·rw[List.mem_singleton] at hx
    subst hx
    exact (aW prog w).keeps gO ho hdat (Heap.SameBut.update ..)
  ·rw[storedH_new hk0,List.map_append,List.nodup_append]
   refine ⟨hn,by simp,λ x hx y hy e=>?_⟩
   simp only[List.map_cons,List.map_nil,List.mem_singleton] at hy
   subst hy e
   exact not_mem_keys_of_get hno hx
 ·intro j p hj
  refine wpAny_bind (wpAny_dictEntries (s:={s with toks:=s.toks+(aW prog w).draws k}) ho hdat ?_)
  rw[entry_at he j,hj]
  exact wpAny_bind (wpAny_rule (wpAny_pure (hold p (atKey_of_get hn hj))))
theorem kN {x:AV} (hd:σ d=some (t,.tdict es)) (hz:es.length≤10000000) (hold:∀y,kH es k=some y→Φ y σ) (hnew:kH es k=none→Φ x (σ.put d (t,.tdict (es++[(k,x)])))):
  WC c env loc σ (.builtin "dict.setdefault") [.ref d,cH.av k,x] Φ:=λ ρ s vs q hv=>by
 obtain ⟨v,vr,rfl,h1,h2⟩:=hv.cons_inv
 obtain ⟨u,ur,rfl,h3,h4⟩:=h2.cons_inv
 obtain ⟨u2,ur2,rfl,hx,h9⟩:=h4.cons_inv
 rw[h9.nil_inv];rw[VIs_ref] at h1;subst h1
 obtain ⟨xs,h5,h6,h7,h8⟩:=q.obj d t _ hd
 obtain ⟨a,items,rfl,h9',h10,h11⟩:=iN (prog:=c.prog) (w:=c.w) h3
 have kv:=TV.of h6 h7 h8
 refine wpAny_call_entry F.slot_dict_setdefault h5.typeIs F.entry_dict_setdefault ?_ (F.args_dict_setdefault_3 _ _ _)
 unfold Builtin.«dict.setdefault»
 refine wpAny_bind ?_
 unfold Builtin.Dict.keyAndDefault
 refine wpAny_bind (wpAny_notOrdered_dict h5.typeIs ?_)
 show wpAny _ _ (pure (d,Value.ref a,some u2)) _ _ s
 refine wpAny_pure ?_
 show wpAny _ _ (if (d==sysModules)=true then _ else _) _ _ s
 rw[nJ q.toSat0 hd,if_neg (by simp)]
 refine wpAny_bind (pC (k:=k) (mB q.toSat0) h11 h5 (λ p hp=>?_) (λ hn h' hm hs=>?_) (by rw[sizeLine_eq,kv.length];exact Hs hz))
 ·rcases kv.get k with ⟨e1,e2⟩ | ⟨y,p',e1,e2,e3⟩
  ·rw[e2] at hp;cases hp
  ·rw[e2] at hp;cases hp
   exact wpAny_pure ⟨_,rfl,⟨y,σ,e3,hold y e1,q.toks _,Ev.refl _⟩⟩
 ·have e1:kH es k=none:=by
   rcases kv.get k with ⟨e1,e2⟩ | ⟨y,p',e1,e2,e3⟩
   ·exact e1
   ·rw[e2] at hn;cases hn
  have hp:Ak es k x=es++[(k,x)]:=by unfold Ak;rw[e1];rfl
  have z:=qL (tk:=s.toks+(aW c.prog c.w).draws k) q hd hm hs (kv.put (k:=k) hx ⟨items,h9'⟩)
  rw[hp] at z
  exact wpAny_pure ⟨_,rfl,⟨x,_,hx.ev z.2,hnew e1,z.1,z.2⟩⟩
theorem Bb (p:Program) (w:World) (h:Heap):(h.push {cls:=.type "dict",data:=.dict #[]}).DictOfH (aW p w) h.objs.size []:=
 ⟨_,#[],0,Heap.get?_push_size _ rfl,⟨rfl,rfl,rfl⟩,rfl,rfl,(λ x hx=>by cases hx),List.nodup_nil⟩
theorem oE {pos:Pos} (t:Tg) (h:∀D,σ D=none→Φ (.ref D) (σ.put D (t,.tdict []))):WE c env loc σ (.Dict [] [] pos) Φ:=λ ρ s q=>by
 refine wpAny_Dict_empty ?_
 have z:=q.new (s':={s with heap:=s.heap.push {cls:=.type "dict",data:=.dict #[]} }) (a:=s.heap.objs.size) (y:=(t,.tdict [])) rfl rfl (Nat.le_refl _) (λ _ _ z=>Heap.get?_push_of_some _ z) ⟨[],Bb _ _ _,rfl,.nil,λ x hx=>by cases hx⟩
 exact ⟨.ref _,_,by simp,h _ z.2.2,z.1,z.2.1⟩
end
noncomputable def aS (ns:List Int):List AV:=ns.map .int
theorem gN {h:Heap}:∀{ns:List Int} {vs:List Value},aO h (aS ns) vs→IntsAre vs ns
 | [],vs,q=>by rw[q.nil_inv];exact .nil
 | n::r,vs,q=>by
  obtain ⟨v,vr,rfl,h2,h3⟩:=q.cons_inv
  rw[VIs_int] at h2
  obtain ⟨t,rfl⟩:=h2
  exact .cons _ _ (gN h3)
theorem lG {h:Heap} {ns:List Int} {vs:List Value} (q:IntsAre vs ns):aO h (aS ns) vs:=by
 induction q with
 | nil=>exact .nil
 | cons _ _ _ ih=>exact .cons (by simp) ih
section
variable {c:Cx} {env:Env} {loc:aV} {σ:aF} {Φ:AV→aF→Prop} {l:Addr} {t:Tg} {xs:List AV} {ns:List Int} {a b:Int}
theorem WC.one {f:Value} {x:AV} (h:∀ρ s v,bJ c env loc σ ρ s→bH s.heap x v→wpAny (MM c) c.A (call f [v]) (fH c env loc ρ s.heap bH Φ) gD s):WC c env loc σ f [x] Φ:=λ ρ s vs q hv=>by
 obtain ⟨v,vr,rfl,h1,h2⟩:=hv.cons_inv
 rw[h2.nil_inv]
 exact h ρ s v q h1
theorem WC.two {f:Value} {x y:AV} (h:∀ρ s v u,bJ c env loc σ ρ s→bH s.heap x v→bH s.heap y u→wpAny (MM c) c.A (call f [v,u]) (fH c env loc ρ s.heap bH Φ) gD s):WC c env loc σ f [x,y] Φ:=λ ρ s vs q hv=>by
 obtain ⟨v,vr,rfl,h1,h2⟩:=hv.cons_inv
 obtain ⟨u,ur,rfl,h3,h4⟩:=h2.cons_inv
 rw[h4.nil_inv]
 exact h ρ s v u q h1 h3
theorem jD (t:Tg) (h:∀D,σ D=none→Φ (.ref D) (σ.put D (t,.range 0 a))):WC c env loc σ (.type "range") [.int a] Φ:=WC.one λ ρ s v q hv=>by
 rw[VIs_int] at hv
 obtain ⟨u,rfl⟩:=hv
 refine call_range_1 ?_
 have z:=q.new (s':={s with heap:=s.heap.push {cls:=.type "range",data:=.fields #[.int 0 s.toks,.int a u,.int 1 (s.toks+1)]},toks:=s.toks+1+1}) (a:=s.heap.objs.size) (y:=(t,.range 0 a)) rfl rfl (Nat.le_refl _) (λ _ _ z=>Heap.get?_push_of_some _ z)
  ⟨_,_,_,Heap.get?_push_size _ rfl⟩
 exact ⟨.ref _,_,by simp,h _ z.2.2,z.1,z.2.1⟩
theorem tG {h:Heap} {acc:Array Value} {lo hi:Int} {n:Nat} (e:(hi-lo).toNat=n) (q:ItemsOf (λ i v=>∃t,v= .int (lo+i*1) t) acc n):aO h (dD lo hi) acc.toList:=by
 have go:∀(m:Nat) (vs:List Value) (k:Nat),vs.length=m→(∀i v,vs[i]? =some v→∃t,v=Value.int (lo+((k+i:Nat):Int)) t)→aO h ((List.range' k m).map λ (i:Nat)=>AV.int (lo+((i:Nat):Int))) vs:=by
  intro m
  induction m with
  | zero=>intro vs k hl _;rw[List.eq_nil_of_length_eq_zero hl];exact .nil
  | succ m ih=>
   intro vs k hl hq
   match vs,hl with
   | v::vr,hl=>
    rw[List.range'_succ,List.map_cons]
    obtain ⟨t,rfl⟩:=hq 0 v rfl
    refine .cons (by simp) (ih vr (k+1) (by simpa using hl) λ i u hu=>?_)
    obtain ⟨t',rfl⟩:=hq (i+1) u (by simpa using hu)
    exact ⟨t',by congr 2;exact Rw⟩
 unfold dD
 rw[e,List.range_eq_range']
 refine go n acc.toList 0 (by rw[Array.length_toList];exact q.1) λ i v hv=>?_
 obtain ⟨t,rfl⟩:=q.2 i v (by simpa using hv)
 exact ⟨t,by congr 1⟩
theorem mH {ρ:dC} {s:Shared} {h':Heap} {tk:Nat} {D:Addr} {ys:List AV} {its:Array Value} {n:Nat} (t2:Tg) (q:bJ c env loc σ ρ s) (hD:s.heap.objs.size≤D) (k:∀b o,s.heap.get? b=some o→h'.get? b=some o)
  (hd:h'.get? D=some (listOf its n)) (hv:aO h' ys its.toList):bJ c env loc (σ.put D (t2,.list ys)) ρ {s with heap:=h',toks:=tk}∧Ev s.heap h'∧σ D=none:=
 q.new (s':={s with heap:=h',toks:=tk}) (a:=D) (y:=(t2,.list ys)) rfl rfl hD k ⟨its,n,hd,hv⟩
theorem lX {hi:Int} (t2:Tg) (hl:σ l=some (t,.range 0 hi)) (h0:0≤hi) (h1:hi≤1000000) (h:∀D,σ D=none→Φ (.ref D) (σ.put D (t2,.list (dD 0 hi)))):WC c env loc σ (.type "list") [.ref l] Φ:=WC.one λ ρ s v q hv=>by
 rw[VIs_ref] at hv;subst hv
 obtain ⟨t1,u1,v1,hr⟩:=q.obj l t _ hl
 refine call_list_range (n:=hi.toNat) q.base.hand hr (oM (by exact Int.natCast_nonneg _) (by exact Int.natCast_nonneg _) (by exact BZ h0) (by exact BV h1)) (by rw[lA];congr 2;exact BO) (by exact BU h1) λ h' tk acc c' hk hD hacc=>?_
 have z:=mH (tk:=tk) t2 q (Nat.le_refl _) hk hD (tG (lo:=0) (hi:=hi) (by exact BP) hacc)
 exact ⟨.ref _,_,by simp,h _ z.2.2,z.1,z.2.1⟩
theorem oG (t2:Tg) (hl:σ l=some (t,.list xs)) (hz:xs.length≤10000000) (h:∀D,σ D=none→Φ (.ref D) (σ.put D (t2,.list xs))):WC c env loc σ (.type "list") [.ref l] Φ:=WC.one λ ρ s v q hv=>by
 rw[VIs_ref] at hv;subst hv
 obtain ⟨items,n,h5,h6⟩:=q.obj l t _ hl
 have hlen:=h6.length
 rw[Array.length_toList] at hlen
 refine call_list_seq l (.inl rfl) h5 rfl rfl (λ h' c' hk hD=>?_) (by rw[sizeLine_eq];exact Jj hz hlen)
 have z:=mH (tk:=s.toks) t2 q (Nat.le_refl _) hk hD (h6.ev (Ev.keeps hk))
 exact ⟨.ref _,_,by simp,h _ z.2.2,z.1,z.2.1⟩
theorem xH (hl:σ l=some (t,.list xs)) (hz:xs.length≤100000) (h:Φ (.tup xs) σ):WC c env loc σ (.type "tuple") [.ref l] Φ:=WC.one λ ρ s v q hv=>by
 rw[VIs_ref] at hv;subst hv
 obtain ⟨items,n,h5,h6⟩:=q.obj l t _ hl
 have hlen:=h6.length
 rw[Array.length_toList] at hlen
 refine call_tuple_list ⟨_,h5,rfl,n,rfl⟩ (λ h' hk=>?_) (by rw[sizeLine_eq];exact S3 hz hlen)
 have k2:∀b o,s.heap.get? b=some o→(h'.push (cB items)).get? b=some o:=λ b o e=>Heap.get?_push_of_some _ (hk b o e)
 have m:=q.more (s':={s with heap:=h'.push {cls:=.type "tuple",data:=.seq items} }) rfl rfl k2
 exact ⟨.tup xs,σ,dN.mpr ⟨_,items,rfl,Heap.get?_push_size _ rfl,by exact S4 hz hlen,h6.ev m.2⟩,h,m.1,m.2⟩
theorem Cr {xs:List AV} (h:Φ (.tup xs) σ):WC c env loc σ (.type "tuple") [.tup xs] Φ:=WC.one λ ρ s v q hv=>by
 have hv':=hv
 rw[dN] at hv
 obtain ⟨a,items,rfl,h5,h5',h6⟩:=hv
 exact call_tuple_same ⟨_,h5,rfl,0,rfl⟩ ⟨.tup xs,σ,hv',h,q,Ev.refl _⟩
theorem G8 (t1 t2:Tg) (hl:σ l=some (t,.list xs)) (h:∀I J,σ J=none→(σ.put J (t1,.lit l)) I=none→Φ (.ref I) ((σ.put J (t1,.lit l)).put I (t2,.enum J))):WC c env loc σ (.type "enumerate") [.ref l] Φ:=WC.one λ ρ s v q hv=>by
 rw[VIs_ref] at hv;subst hv
 obtain ⟨items,n,h5,h6⟩:=q.obj l t _ hl
 refine call_enumerate_list ⟨_,h5,rfl,n,rfl⟩ λ h' hE hI hsz hk=>?_
 have z:=q.new (s':={s with heap:=h'}) (a:=s.heap.objs.size) (y:=(t1,.lit l)) rfl rfl (Nat.le_refl _) hk hI
 have f:=q.toSat0.fresh (Nat.le_succ s.heap.objs.size)
 have lf:=q.lt_frame (Nat.le_succ s.heap.objs.size)
 have n1:(σ.put s.heap.objs.size (t1,.lit l)) (s.heap.objs.size+1)=none:=by
  rw[aF.put_ne _ _ (Nat.succ_ne_self _)];exact f.1
 have z2:=z.1.track (a:=s.heap.objs.size+1) (y:=(t2,.enum s.heap.objs.size)) ⟨f.2.2,f.2.1,lf.1,lf.2⟩ ⟨_,hE⟩
 exact ⟨.ref _,_,by simp,h _ _ z.2.2 n1,z2,z.2.1⟩
theorem vJ (h:Φ (.int (if b<a then b else a)) σ):WC c env loc σ (.builtin "min") [.int a,.int b] Φ:=WC.two λ ρ s v u q h1 h2=>by
 rw[VIs_int] at h1 h2
 obtain ⟨t1,rfl⟩:=h1
 obtain ⟨t2,rfl⟩:=h2
 refine min_two_ints q.base.hand λ h' tk hk=>?_
 have m:=q.more (s':={s with heap:=h',toks:=tk}) rfl rfl hk
 exact ⟨.int (if b<a then b else a),σ,by split<;>simp,h,m.1,m.2⟩
theorem G6 (h:Φ (.int (if b>a then b else a)) σ):WC c env loc σ (.builtin "max") [.int a,.int b] Φ:=WC.two λ ρ s v u q h1 h2=>by
 rw[VIs_int] at h1 h2
 obtain ⟨t1,rfl⟩:=h1
 obtain ⟨t2,rfl⟩:=h2
 refine max_two_ints q.base.hand λ h' tk hk=>?_
 have m:=q.more (s':={s with heap:=h',toks:=tk}) rfl rfl hk
 exact ⟨.int (if b>a then b else a),σ,by split<;>simp,h,m.1,m.2⟩
theorem nM {ρ:dC} {s:Shared} (q:bJ c env loc σ ρ s) (hl:σ l=some (t,.list (aS ns))):∃items n,s.heap.get? l=some (listOf items n)∧IntsAre items.toList ns∧s.heap.IsList l items.toList.toArray:=by
 obtain ⟨items,n,h5,h6⟩:=q.obj l t _ hl
 exact ⟨items,n,h5,gN h6,⟨_,h5,rfl,n,by simp⟩⟩
theorem vK (hl:σ l=some (t,.list (aS ns))) (hne:0<ns.length) (h:∀M,M∈ns→(∀a∈ns,a≤M)→Φ (.int M) σ):WC c env loc σ (.builtin "max") [.ref l] Φ:=WC.one λ ρ s v q hv=>by
 rw[VIs_ref] at hv;subst hv
 obtain ⟨items,n,h5,hi,hl'⟩:=nM q hl
 obtain ⟨m,F,hq⟩:=q.frame
 refine max_list_N q.base.hand F (eV (D:=[])) hl' hi hne λ h' M t' tk F' N' hm hall=>?_
 have z:=q.viaNews (s':={s with heap:=h',toks:=tk}) rfl rfl F hq F' N' (λ p hp=>hp)
 exact ⟨.int M,σ,by simp,h M hm hall,z.1,z.2.1⟩
theorem jG {xs:Array (Int×Tok)}:∀j,j≤xs.size→preSum (numAt xs) j=((xs.toList.map (·.1)).take j).sum
 | 0,_=>by simp[preSum]
 | j+1,h=>by
  rw[preSum,jG j (by exact Nat.le_of_lt ‹_›)]
  have hj:j<(xs.toList.map (·.1)).length:=by simp;exact Jt h
  rw[List.take_succ_eq_append_getElem hj,List.sum_append]
  have:numAt xs j=(xs.toList.map (·.1))[j]:=by
   unfold numAt
   rw[Array.getElem?_eq_getElem (by exact Jt h)]
   simp
  rw[this];simp
theorem Km {l:List Int} {m:Int} (h:∀x∈l,0≤x∧x≤m):0≤l.sum∧l.sum≤l.length*m:=by
 induction l with
 | nil=>simp
 | cons x r ih=>
  have h1:=h x List.mem_cons_self
  have h2:=ih λ y hy=>h y (List.mem_cons_of_mem _ hy)
  rw[List.sum_cons,List.length_cons]
  have e:((r.length+1:Nat):Int)*m=r.length*m+m:=by rw[Int.natCast_add,Int.add_mul];simp
  rw[e]
  exact Mj h1 h2
theorem vI (hl:σ l=some (t,.list (aS ns))) (hb:∀x∈ns,0≤x∧x≤1000000) (hz:ns.length≤1000) (h:Φ (.int ns.sum) σ):WC c env loc σ (.builtin "sum") [.ref l] Φ:=WC.one λ ρ s v q hv=>by
 rw[VIs_ref] at hv;subst hv
 obtain ⟨items,n,h5,hi,hl'⟩:=nM q hl
 obtain ⟨xs,e⟩:=hi.allInts.items
 have e':items=intItems xs:=by simpa using e
 have hns:ns=xs.toList.map (·.1):=by
  have h1:=hi
  rw[e'] at h1
  clear hl' e e' h5 hl hi h hb hz
  have:∀(l:List (Int×Tok)) (ns:List Int),IntsAre (l.map λ p=>Value.int p.1 p.2) ns→ns=l.map (·.1):=by
   intro l
   induction l with
   | nil=>intro ns h;cases h;rfl
   | cons p r ih=>
    intro ns h
    cases h with
    | cons _ _ h=>rw[List.map_cons,←ih _ h]
  exact this xs.toList ns (by simpa [intItems] using h1)
 have hsz:xs.size≤1000:=by rw[hns] at hz;simpa using hz
 have fits:∀j,j≤xs.size→0≤preSum (numAt xs) j∧preSum (numAt xs) j≤1000*1000000:=λ j hj=>by
  rw[jG j hj,←hns]
  have:=Km (l:=ns.take j) (m:=1000000) λ x hx=>hb x (List.mem_of_mem_take hx)
  have hl2:(ns.take j).length≤1000:=by rw[List.length_take];exact S6 hz
  have:((ns.take j).length:Int)*1000000≤1000*1000000:=by exact AJ hl2
  exact Nc ‹_› hl2
 refine sum_intList q.base.hand ⟨_,h5,rfl,n,by rw[e']⟩ (λ j hj=>⟨?_,?_⟩) λ h' tk t' hk=>?_
 ·have:numAt xs j∈ns:=by
   rw[hns]
   unfold numAt
   rw[Array.getElem?_eq_getElem hj]
   exact List.mem_map.mpr ⟨xs[j],by simp,by simp⟩
  have:=hb _ this
  unfold InLong;exact CA this
 ·have:=fits (j+1) hj
  unfold InLong;exact lq9 this
 ·have z:=q.more (s':={s with heap:=h',toks:=tk}) rfl rfl hk
  have e3:preSum (numAt xs) xs.size=ns.sum:=by rw[jG _ (Nat.le_refl _),←hns,List.take_of_length_le (by rw[hns];simp)]
  exact ⟨.int ns.sum,σ,by rw[e3];simp,h,z.1,z.2⟩
theorem Cs (ha:a.natAbs<2^64) (h:Φ (.str (toString a)) σ):WC c env loc σ (.type "str") [.int a] Φ:=WC.one λ ρ s v q hv=>by
 rw[VIs_int] at hv
 obtain ⟨t1,rfl⟩:=hv
 refine P.str_of_int ?_ ⟨.str (toString a),σ,by simp,h,q.toks _,Ev.refl _⟩
 rcases Nat.eq_zero_or_pos a.natAbs with h0 | hp
 ·rw[h0];decide
 ·have:=(Nat.log2_lt (k:=64) (Nat.ne_of_gt hp)).mpr ha
  exact AN this
theorem qG (t2:Tg) (hl:σ l=some (t,.list (aS ns))) (h64:ns.length<64) (h:∀D ns',σ D=none→ns'.Perm ns→ns'.Pairwise (·≤ ·)→Φ (.ref D) (σ.put D (t2,.list (aS ns')))):WC c env loc σ (.builtin "sorted") [.ref l] Φ:=WC.one λ ρ s v q hv=>by
 rw[VIs_ref] at hv;subst hv
 obtain ⟨items,n,h5,hi,hl'⟩:=nM q hl
 obtain ⟨m,F,hq⟩:=q.frame
 have hvl:=IntsAre.length hi
 refine sorted_N F (eV (D:=[])) hl' hi (by exact T5 h64 hvl) λ h' vs' ns' e F' N' a1 a2 a3=>?_
 have z:=q.viaNews (s':={s with heap:=h'}) rfl rfl F hq F' N' (λ p hp=>List.mem_cons_of_mem _ hp)
 have hD:=(N' _ List.mem_cons_self).1
 have f:=q.toSat0.fresh (Nat.le_succ s.heap.objs.size)
 have lf:=q.lt_frame (Nat.le_succ s.heap.objs.size)
 have z2:=z.1.track (a:=s.heap.objs.size+1) (y:=(t2,.list (aS ns'))) ⟨f.2.2,f.2.1,lf.1,lf.2⟩ ⟨_,e,hD,by simpa using lG a1⟩
 exact ⟨.ref _,_,by simp,h _ _ f.1 a2 a3,z2,z.2.1⟩
end
section
variable {c:Cx} {env:Env} {loc:aV} {σ:aF} {ρ:dC} {s:Shared}
theorem bJ.unused (q:bJ c env loc σ ρ s) {D:Addr} (hD:s.heap.get? D=none):c.h₀.get? D=none∧σ D=none∧ρ D=none∧D≠env.locals∧∀n,(n,D)∉env.cells:=by
 refine ⟨?_,?_,?_,?_,?_⟩
 ·cases e:c.h₀.get? D with
  | none=>rfl
  | some o=>rw[q.keep _ _ e] at hD;cases hD
 ·cases e:σ D with
  | none=>rfl
  | some y=>obtain ⟨o,ho,_⟩:=(q.obj D y.1 y.2 e).obj;rw[ho] at hD;cases hD
 ·cases e:ρ D with
  | none=>rfl
  | some o=>rw[q.hid _ _ e] at hD;cases hD
 ·rintro rfl
  obtain ⟨m,⟨o,_,_,ho,_⟩,_⟩:=q.fr.locs
  rw[ho] at hD;cases hD
 ·intro n m
  obtain ⟨v,⟨o,ho,_⟩,_⟩:=q.fr.cell n D m
  rw[ho] at hD;cases hD
theorem wJ {h₀ h:Heap} {L D:Addr} (hL:D≠L) (h0:h₀.get? D=none) (hab:∀p∈fJ h₀ h L [],p.1<D):h.get? D=none:=by
 cases e:h.get? D with
 | none=>rfl
 | some o=>exact absurd (hab (D,o) (dF.mpr ⟨hL,by simp,h0,e⟩)) (Nat.lt_irrefl _)
theorem eM {h:Heap} {a b:Addr} {vs:List Value} {out:Array Value} {o:Obj} (hb:b≠a) (e:h.get? b=some o):(sortedHeap h a vs out).get? b=some o:=by
 unfold sortedHeap
 rw[Heap.get?_update_other _ _ (Ne.symm hb)]
 refine Heap.get?_push_of_some _ (Heap.get?_push_of_some _ ?_)
 rw[Heap.get?_update_other _ _ (Ne.symm hb)];exact e
end
section
variable {c:Cx} {env:Env} {loc:aV} {σ:aF} {Φ:AV→aF→Prop} {d:Addr} {t:Tg} {es:List (Int×AV)}
theorem Ae (t2:Tg) (hd:σ d=some (t,.idict es)) (h64:es.length<64) (h:∀D ns,σ D=none→ns.Perm (es.map (·.1))→ns.Pairwise (·≤ ·)→Φ (.ref D) (σ.put D (t2,.list (aS ns)))):WC c env loc σ (.builtin "sorted") [.ref d] Φ:=WC.one λ ρ s v q hv=>by
 rw[VIs_ref] at hv;subst hv
 obtain ⟨kvs,h5,h6,h7⟩:=q.obj d t _ hd
 have kv:=KV.of h6 h7
 obtain ⟨o,ess,ep,r⟩:=h5
 have hat:s.heap.DictAt (intKind c.prog c.w) d kvs ep:=⟨o,ess,r⟩
 obtain ⟨m,F,hq⟩:=q.frame
 have hlen:=kv.length
 refine kdu_sorted (kdl_dict (knd:=intKind c.prog c.w) (kvs:=kvs) (ep:=ep) (nJ q.toSat0 hd)) q.base.hand F (eV (D:=[])) hat (by rw[sizeLine_eq];exact T4 h64 hlen) λ D h' tk vs F' N' hab hvl hP=>?_
 have hI:IntsAre vs (es.map (·.1)):=by
  rw[←kv.keys]
  clear hab N' F' hat r kv h6 h7 hlen hq
  induction kvs generalizing vs with
  | nil=>cases vs with
   | nil=>exact .nil
   | cons v r=>simp at hvl
  | cons p kr ih=>cases vs with
   | nil=>simp at hvl
   | cons v vr=>
    obtain ⟨k,x,e1,e2⟩:=hP 0 v rfl
    simp only[List.getElem?_cons_zero,Option.some.injEq] at e1
    obtain ⟨t',rfl⟩:=Value.isInt_shape e2
    subst e1
    exact .cons _ _ (ih vr (by simpa using hvl) λ j u hu=>hP (j+1) u (by simpa using hu))
 obtain ⟨hD,hDL,hD0⟩:=N' _ List.mem_cons_self
 have dead:=wJ hDL hD0 hab
 have un:=q.unused dead
 have z:=q.viaNews (s':={s with heap:=h',toks:=tk}) rfl rfl F hq F' N' (λ p hp=>List.mem_cons_of_mem _ hp)
 refine wpAny_call_entry slot_list_sort ⟨_,hD,rfl⟩ entry_list_sort (list_sort_tree (n:=0) hD hI (by exact Qq h64 hlen hvl) λ out ns' a1 a2 a3=>⟨_,rfl,?_⟩) (args_list_sort _)
 obtain ⟨e,he⟩:=sortedHeap_at (n:=0) (out:=out) hD
 have z2:=z.1.put (s':={s with heap:=sortedHeap h' D vs out,toks:=tk}) (a:=D) (y:=(t2,.list (aS ns'))) rfl rfl (λ b o hb e=>eM hb e)
  (λ b items eb=>by
   by_cases w:b=D
   ·subst w;rw[hD] at eb;exact absurd (congrArg Obj.cls (Option.some.inj eb)) (by simp)
   ·exact eM w eb) ⟨un.1,un.2.2.1,un.2.2.2.1,un.2.2.2.2⟩ ⟨out,e,he,lG a1⟩
 refine ⟨.ref D,_,by simp,h _ ns' un.2.1 a2 a3,z2,z.2.1.trans λ b items eb=>?_⟩
 by_cases w:b=D
 ·subst w;rw[hD] at eb;exact absurd (congrArg Obj.cls (Option.some.inj eb)) (by simp)
 ·exact eM w eb
end
noncomputable def Cx.make (c:Cx) (C:Addr) (vals:List Value):Cx:={c with A:=c.A.under (.builtin "type.__call__" ⟨.ref C::vals,[]⟩),n:=c.n-1}
theorem xA.make {c:Cx} (b:xA c) (h:1≤c.n) (C:Addr) (vals:List Value):xA (c.make C vals) where
 kx:=b.kx
 lim:=b.lim
 glob:=b.glob
 hand:=b.hand
 deep:=by have:=b.deep;show c.A.depth+1+3*(c.n-1)<_;exact Jb h this
 room:=by have:=b.room;show c.A.units+1+12*(c.n-1)+20<_;exact Rc h this
section
variable {c:Cx} {σ σ':aF} {ρ:dC} {s s':Shared}
theorem Sat0.make (x:Sat0 c σ ρ s) (hn:1≤c.n) {C X d:Addr} {vals:List Value} {t t':Tg} {h':Heap} (hX:s.heap.get? X=none) (hd:s.heap.get? d=none) (hne:X≠d) (k:∀b o,s.heap.get? b=some o→h'.get? b=some o)
  (oX:h'.get? X=some (instObj C d)) (od:h'.get? d=some (dictOf [] 0)):Sat0 (c.make C vals) ((σ.put d (t',.ns [])).put X (t,.inst C d)) ρ {s with heap:=h'}∧σ d=none∧(σ.put d (t',.ns [])) X=none∧Ev s.heap h':=by
 have ev:Ev s.heap h':=Ev.keeps k
 have dead:∀D,s.heap.get? D=none→c.h₀.get? D=none∧σ D=none∧ρ D=none:=λ D hD=>by
  refine ⟨?_,?_,?_⟩
  ·cases e:c.h₀.get? D with
   | none=>rfl
   | some o=>rw[x.keep _ _ e] at hD;cases hD
  ·cases e:σ D with
   | none=>rfl
   | some y=>obtain ⟨o,ho,_⟩:=(x.obj D y.1 y.2 e).obj;rw[ho] at hD;cases hD
  ·cases e:ρ D with
   | none=>rfl
   | some o=>rw[x.hid _ _ e] at hD;cases hD
 have fX:=dead X hX
 have fd:=dead d hd
 refine ⟨⟨x.base.make hn C vals,λ b o e=>k b o (x.keep b o e),?_,?_,λ b o e=>k b o (x.hid b o e),x.gens,x.os⟩,fd.2.1,by rw[aF.put_ne _ _ hne];exact fX.2.1,ev⟩
 ·intro a t1 ao ha
  by_cases h1:a=X
  ·subst h1;rw[aF.put_same] at ha;cases ha;exact oX
  ·rw[aF.put_ne _ _ h1] at ha
   by_cases h2:a=d
   ·subst h2;rw[aF.put_same] at ha;cases ha;exact ⟨[],0,od,rfl⟩
   ·rw[aF.put_ne _ _ h2] at ha
    exact (x.obj a t1 ao ha).mono ev λ o=>k a o
 ·intro a y ha
  by_cases h1:a=X
  ·subst h1;exact ⟨fX.1,fX.2.2⟩
  ·rw[aF.put_ne _ _ h1] at ha
   by_cases h2:a=d
   ·subst h2;exact ⟨fd.1,fd.2.2⟩
   ·rw[aF.put_ne _ _ h2] at ha;exact x.own a y ha
theorem Sat0.unmake {C:Addr} {vals:List Value} (x:Sat0 (c.make C vals) σ ρ s) (b:xA c):Sat0 c σ ρ s:=⟨b,x.keep,x.obj,x.own,x.hid,x.gens,x.os⟩
theorem Ii {C fI:Addr} {as:List AV} {Φ:AV→aF→Prop} (t t':Tg) (hm:makesIn (KK c.w) C=true) (hi:findIn (KK c.w) (.ref C) "__init__"=some (some (.ref fI))) (hf:typeIn (KK c.w) (.ref fI)=some (.type "function")) (hn:1≤c.n)
  (h:∀vals X d,σ d=none→(σ.put d (t',.ns [])) X=none→gG (c.make C vals) ((σ.put d (t',.ns [])).put X (t,.inst C d)) (.ref fI) (.ref X::as) λ r σ'=>r= .none∧Φ (.ref X) σ'):gG c σ (.ref C) as Φ:=λ ρ s vs q hv=>by
 have X:=q.base.kx.keeps q.keep
 have Y:=makes_of (M:=MM c) X hm
 obtain ⟨hh,g,dr,tk,os⟩:=s
 refine make_core Y (looks_findIn X hi) (λ self=>bind_fn X self hf) (.inl rfl) ?_
 have d1:hh.get? hh.objs.size=none:=by
  cases e:hh.get? hh.objs.size with
  | none=>rfl
  | some o=>exact absurd (Heap.lt_size e) (Nat.lt_irrefl _)
 have d2:hh.get? (hh.objs.size+1)=none:=by
  cases e:hh.get? (hh.objs.size+1) with
  | none=>rfl
  | some o=>exact absurd (Heap.lt_size e) (Nat.not_lt.mpr (Nat.le_succ _))
 have hne:(hh.objs.size+1:Nat)≠hh.objs.size:=Nat.succ_ne_self _
 have sz:(hh.push emptyDict).objs.size=hh.objs.size+1:=Heap.size_push ..
 have oX:((hh.push emptyDict).push (instObj C hh.objs.size)).get? (hh.objs.size+1)=some (instObj C hh.objs.size):=by rw[←sz];exact Heap.get?_push_size _ rfl
 have od:((hh.push emptyDict).push (instObj C hh.objs.size)).get? hh.objs.size=some (dictOf [] 0):=Heap.get?_push_of_some _ (Heap.get?_push_size _ rfl)
 have z:=q.make (t:=t) (t':=t') (C:=C) (vals:=vs) hn d2 d1 hne (h':=(hh.push emptyDict).push (instObj C hh.objs.size)) (λ b o e=>Heap.get?_push_of_some _ (Heap.get?_push_of_some _ e)) oX od
 have main:=h vs (hh.objs.size+1) hh.objs.size z.2.1 z.2.2.1 ρ _ (.ref (hh.objs.size+1)::vs) z.1 (.cons (by simp) (hv.ev z.2.2.2))
 refine codeAny_mono main λ r s' y=>?_
 match r,y with
 | .ok (.ret v),y=>
  obtain ⟨av,σ',h1,⟨ea,h2⟩,h3,h4⟩:=y
  subst ea
  rw[VIs_none] at h1
  exact ⟨h1,⟨_,σ',by simp,h2,h3.unmake q.base,z.2.2.2.trans h4⟩⟩
 | .ok .next,y=>exact y.elim
 | .ok .brk,y=>exact y.elim
 | .ok .cont,y=>exact y.elim
 | .error e,y=>exact y.elim
theorem Cj {env:Env} {loc:aV} {C:Addr} {Φ:AV→aF→Prop} (t t':Tg) (hm:makesIn (KK c.w) C=true) (hi:findIn (KK c.w) (.ref C) "__init__"=some (some (.builtin "object.__init__")))
  (h:∀X d,σ d=none→(σ.put d (t',.ns [])) X=none→Φ (.ref X) ((σ.put d (t',.ns [])).put X (t,.inst C d))):WC c env loc σ (.ref C) [] Φ:=λ ρ s vs q hv=>by
 rw[hv.nil_inv]
 obtain ⟨m,F,hq⟩:=q.frame
 refine wpAny_call (make_K0 F (eV (D:=[])) (q.base.kx.keeps q.keep) hm hi λ X d h' F' N' hlt hne=>?_)
 have z:=q.viaNews (s':={s with heap:=h'}) rfl rfl F hq F' N' (λ p hp=>List.mem_cons_of_mem _ (List.mem_cons_of_mem _ hp))
 obtain ⟨oX,hXL,hX0⟩:=N' _ List.mem_cons_self
 obtain ⟨od,hdL,Vs⟩:=N' _ (List.mem_cons_of_mem _ List.mem_cons_self)
 have ud:=q.unused (wJ hdL Vs hlt)
 have uX:=q.unused (wJ hXL hX0 λ p hp=>Nat.lt_trans (hlt p hp) hne)
 have nXd:X≠d:=λ e=>Nat.lt_irrefl _ (e▸hne)
 have n1:(σ.put d (t',.ns [])) X=none:=by rw[aF.put_ne _ _ nXd];exact uX.2.1
 have z1:=z.1.track (a:=d) (y:=(t',.ns [])) ⟨ud.1,ud.2.2.1,ud.2.2.2.1,ud.2.2.2.2⟩ ⟨[],0,od,rfl⟩
 have z2:=z1.track (a:=X) (y:=(t,.inst C d)) ⟨uX.1,uX.2.2.1,uX.2.2.2.1,uX.2.2.2.2⟩ oX
 exact ⟨.ref X,_,by simp,h X d ud.2.1 n1,z2,z.2.1⟩
end
theorem hU:∀(names:List (Str×NameKind)) (n:Nat) (acc:List (Str×Addr)) (p:Str×Addr),p∈cellsFrom n names acc→p∈acc∨(p.1,NameKind.cell)∈names
 | [],n,acc,p,h=>.inl h
 | (y,k)::r,n,acc,p,h=>by
  unfold cellsFrom at h
  by_cases hk:(k== .cell)=true
  ·rw[if_pos hk] at h
   have ek:k= .cell:=eq_of_beq hk
   subst ek
   rcases hU r _ _ p h with h | h
   ·rcases List.mem_cons.mp h with rfl | h
    ·exact .inr List.mem_cons_self
    ·exact .inl h
   ·exact .inr (List.mem_cons_of_mem _ h)
  ·rw[if_neg hk] at h
   exact (hU r _ _ p h).imp id λ h=>List.mem_cons_of_mem _ h
theorem gF:∀(names:List (Str×NameKind)) (n:Nat) (acc:List (Str×Addr)),(names.map (·.1)).Nodup→(acc.map (·.1)).Nodup→(∀x∈acc,x.1∉names.map (·.1))→((cellsFrom n names acc).map (·.1)).Nodup
 | [],_,_,_,h,_=>h
 | (y,k)::r,n,acc,hn,ha,hd=>by
  rw[List.map_cons,List.nodup_cons] at hn
  have hr:∀x∈acc,x.1∉r.map (·.1):=λ x hx hm=>hd x hx (List.mem_cons_of_mem _ hm)
  unfold cellsFrom
  by_cases hk:(k== .cell)=true
  ·rw[if_pos hk]
   refine gF r _ _ hn.2 ?_ ?_
   ·rw[List.map_cons,List.nodup_cons]
    refine ⟨λ hm=>?_,ha⟩
    obtain ⟨x,hx,e⟩:=List.mem_map.mp hm
    exact hd x hx (by rw[e];exact List.mem_cons_self)
   ·intro x hx
    rcases List.mem_cons.mp hx with rfl | hx
    ·exact hn.1
    ·exact hr x hx
  ·rw[if_neg hk]
   exact gF r _ _ hn.2 ha hr
theorem dX {α β:Type} [BEq α] [LawfulBEq α]:∀{l:List (α×β)} {p:α×β},(l.map (·.1)).Nodup→p∈l→l.lookup p.1=some p.2
 | (a,b)::r,p,hn,hp=>by
  rw[List.map_cons,List.nodup_cons] at hn
  rw[List.lookup_cons]
  rcases List.mem_cons.mp hp with rfl | hp2
  ·simp
  ·have:(p.1==a)=false:=by
    rw[beq_eq_false_iff_ne]
    intro e
    exact hn.1 (List.mem_map.mpr ⟨p,hp2,e⟩)
   rw[this]
   exact dX hn.2 hp2
theorem mK {P:List Value→Prop} (h:∀a,P [a]) (vs:List Value) (e:vs.length=1):P vs:=by
 obtain ⟨a,rfl⟩:=List.length_eq_one_iff.mp e
 exact h a
theorem K7 {P:List Value→Prop} {n:Nat} (h:∀a r,r.length=n→P (a::r)) (vs:List Value) (e:vs.length=n+1):P vs:=by
 cases vs with
 | nil=>cases e
 | cons a r=>exact h a r (Nat.succ.inj e)
theorem kI {P:List Value→Prop} (h:∀a b,P [a,b]) (vs:List Value) (e:vs.length=2):P vs:=K7 (λ a=>mK (P:=λ r=>P (a::r)) (h a)) vs e
theorem vX {P:List Value→Prop} (h:∀a b d,P [a,b,d]) (vs:List Value) (e:vs.length=3):P vs:=K7 (λ a=>kI (P:=λ r=>P (a::r)) (h a)) vs e
theorem Hu {P:List Value→Prop} (h:∀a b d f,P [a,b,d,f]) (vs:List Value) (e:vs.length=4):P vs:=K7 (λ a=>vX (P:=λ r=>P (a::r)) (h a)) vs e
structure bM (w:World) (f:Addr) (fd:FuncData) (ns:List Str) (body:List Stmt):Prop where
 ho:∃oc od osl,(KK w).lookup f=some ⟨oc,od,.func fd,osl⟩
 hbind:∀vs:List Value,vs.length=ns.length→bindArgs fd ⟨vs,[]⟩=pure (ns.zip vs)
 hcd:codeIn (KK w) fd.code fd.qualname=true:=by kernel_rfl
 hbody:fd.body= .stmts body:=by rfl
 hclo:fd.closure=[]:=by rfl
 hglob:fd.globals=mainGlobals:=by rfl
 hbu:fd.builtins=builtinsNs:=by rfl
 hnames:(fd.scope.names.map (·.1)).Nodup:=by decide+kernel
 hkind:(ns.all λ x=>fd.scope.names.lookup x==some .local||fd.scope.names.lookup x==some .cell)=true:=by kernel_rfl
 hco:fd.scope.isCoroutine=false:=by kernel_rfl
 hgen:fd.scope.isGenerator=false:=by kernel_rfl
 hk:fd.scope.kind= .function:=by kernel_rfl
theorem bM.call {c:Cx} {σ:aF} {f:Addr} {as:List AV} {Φ:AV→aF→Prop} {fd:FuncData} {body:List Stmt} {ns:List Str} (d:bM c.w f fd ns body) (hn:1≤c.n) (hl:ns.length=as.length)
  (h:∀L,WS (c.deep (bB fd L f)) (bB fd L f) (iR (ns.zip as) λ _=>none) σ (execs body (bB fd L f)) (Gr Φ)):gG c σ (.ref f) as Φ:=
 let ⟨_,_,_,ho⟩:=d.ho
 Ij ho d.hcd hn d.hbody d.hclo d.hglob d.hbu (λ vs hv=>d.hbind vs (hv.trans hl.symm))
  (λ x hx=>by
   have:=List.all_eq_true.mp d.hkind x hx
   rcases Bool.or_eq_true_iff.mp this with q | q
   ·exact .inl (by simpa using q)
   ·have q':fd.scope.names.lookup x=some .cell:=by simpa using q
    exact .inr ⟨q',λ L=>cellsFrom_some _ _ _ (.inl q')⟩)
  (λ L p hp=>by
   have nd:=gF fd.scope.names (L+1) [] d.hnames List.nodup_nil (λ _ h=>by cases h)
   refine ⟨dX nd hp,?_⟩
   rcases hU _ _ _ _ hp with h | h
   ·cases h
   ·rw[dX (p:=(p.1,NameKind.cell)) d.hnames h];simp)
  h d.hco d.hgen d.hk
noncomputable abbrev fD (a b:Str) (s:Stmt) (m:Str) (k r:Nat):FuncData:=FuncData.mk a b (H4 s) (.stmts (bE s)) (jM s) 3 [] Value.none Value.none Value.none (Value.str m k) none (Value.ref r) Value.none 0
abbrev jO:List Stmt:=bE (aG PT 2 0)
abbrev jB:FuncData:=fD z20 z26 (aG PT 2 0) z4 194 34
theorem jN (w:World):bM w 35 jB [z23,z24,z25] jO:={ho:=⟨_,_,_,(show (KK w).lookup 35=some (o26 PT w.params) from by kernel_rfl)⟩,hbind:=vX λ _ _ _=>by kernel_rfl}
abbrev kM:List Stmt:=bE (aG PT 2 1)
abbrev jL:FuncData:=fD z21 z29 (aG PT 2 1) z4 194 41
theorem kK (w:World):bM w 42 jL [z23,z27,z28] kM:={ho:=⟨_,_,_,(show (KK w).lookup 42=some (o33 PT w.params) from by kernel_rfl)⟩,hbind:=vX λ _ _ _=>by kernel_rfl}
abbrev kL:List Stmt:=bE (aG PT 3 0)
abbrev jK:FuncData:=fD z20 z32 (aG PT 3 0) z4 194 62
theorem kJ (w:World):bM w 63 jK [z23,z24,z25] kL:={ho:=⟨_,_,_,(show (KK w).lookup 63=some (o54 PT w.params) from by kernel_rfl)⟩,hbind:=vX λ _ _ _=>by kernel_rfl}
abbrev tW:List Stmt:=bE (aG PT 4 0)
abbrev rS:FuncData:=fD z38 z48 (aG PT 4 0) z4 194 81
theorem tP (w:World):bM w 82 rS [z23,z46,z47] tW:={ho:=⟨_,_,_,(show (KK w).lookup 82=some (o76 PT w.params) from by kernel_rfl)⟩,hbind:=vX λ _ _ _=>by kernel_rfl}
abbrev nZ:List Stmt:=bE (aG PT 4 1)
abbrev mU:FuncData:=fD z39 z49 (aG PT 4 1) z4 194 88
theorem nU (w:World):bM w 89 mU [z23] nZ:={ho:=⟨_,_,_,(show (KK w).lookup 89=some (o83 PT w.params) from by kernel_rfl)⟩,hbind:=mK λ _=>by kernel_rfl}
abbrev sP:List Stmt:=bE (aG PT 4 2)
abbrev pH:FuncData:=fD z40 z51 (aG PT 4 2) z4 194 95
theorem sB (w:World):bM w 96 pH [z23,z50] sP:={ho:=⟨_,_,_,(show (KK w).lookup 96=some (o90 PT w.params) from by kernel_rfl)⟩,hbind:=kI λ _ _=>by kernel_rfl}
abbrev sQ:List Stmt:=bE (aG PT 4 3)
abbrev pI:FuncData:=fD z41 z54 (aG PT 4 3) z4 194 102
theorem sC (w:World):bM w 103 pI [z23] sQ:={ho:=⟨_,_,_,(show (KK w).lookup 103=some (o97 PT w.params) from by kernel_rfl)⟩,hbind:=mK λ _=>by kernel_rfl}
abbrev mZ:List Stmt:=bE (aG PT 4 4)
abbrev lM:FuncData:=fD z42 z55 (aG PT 4 4) z4 194 107
theorem mY (w:World):bM w 108 lM [z23,z50] mZ:={ho:=⟨_,_,_,(show (KK w).lookup 108=some (o102 PT w.params) from by kernel_rfl)⟩,hbind:=kI λ _ _=>by kernel_rfl}
abbrev pO:List Stmt:=bE (aG PT 4 5)
abbrev nQ:FuncData:=fD z43 z56 (aG PT 4 5) z4 194 112
theorem pM (w:World):bM w 113 nQ [z23] pO:={ho:=⟨_,_,_,(show (KK w).lookup 113=some (o107 PT w.params) from by kernel_rfl)⟩,hbind:=mK λ _=>by kernel_rfl}
abbrev H8:List Stmt:=bE (bI PT 9)
abbrev Ge:FuncData:=fD z68 z68 (bI PT 9) z70 400 179
theorem H5 (w:World):bM w 180 Ge [z193] H8:={ho:=⟨_,_,_,(show (KK w).lookup 180=some (o177 PT w.params) from by kernel_rfl)⟩,hbind:=mK λ _=>by kernel_rfl}
abbrev zP:List Stmt:=bE (aG PT 10 0)
abbrev wH:FuncData:=fD z38 z83 (aG PT 10 0) z70 400 193
theorem zA (w:World):bM w 194 wH [z23] zP:={ho:=⟨_,_,_,(show (KK w).lookup 194=some (o191 PT w.params) from by kernel_rfl)⟩,hbind:=mK λ _=>by kernel_rfl}
abbrev pA:List Stmt:=bE (aG PT 10 2)
abbrev iQ:FuncData:=fD z72 z85 (aG PT 10 2) z70 400 205
theorem yY (w:World):bM w 206 iQ [z23,z24,z77] pA:={ho:=⟨_,_,_,(show (KK w).lookup 206=some (o203 PT w.params) from by kernel_rfl)⟩,hbind:=vX λ _ _ _=>by kernel_rfl}
abbrev sT:List Stmt:=bE (aG PT 10 3)
abbrev pL:FuncData:=fD z73 z86 (aG PT 10 3) z70 400 212
theorem sG (w:World):bM w 213 pL [z23,z24] sT:={ho:=⟨_,_,_,(show (KK w).lookup 213=some (o210 PT w.params) from by kernel_rfl)⟩,hbind:=kI λ _ _=>by kernel_rfl}
abbrev Dm:List Stmt:=bE (aG PT 10 7)
abbrev Ba:FuncData:=fD z24 z93 (aG PT 10 7) z70 400 240
theorem Dj (w:World):bM w 241 Ba [z23,z92] Dm:={ho:=⟨_,_,_,(show (KK w).lookup 241=some (o238 PT w.params) from by kernel_rfl)⟩,hbind:=kI λ _ _=>by kernel_rfl}
abbrev zO:List Stmt:=bE (aG PT 10 8)
abbrev wG:FuncData:=fD z77 z94 (aG PT 10 8) z70 400 247
theorem yZ (w:World):bM w 248 wG [z23,z92] zO:={ho:=⟨_,_,_,(show (KK w).lookup 248=some (o245 PT w.params) from by kernel_rfl)⟩,hbind:=kI λ _ _=>by kernel_rfl}
abbrev tU:List Stmt:=bE (aG PT 12 0)
abbrev rQ:FuncData:=fD z38 z113 (aG PT 12 0) z66 539 301
theorem tN (w:World):bM w 302 rQ [z23] tU:={ho:=⟨_,_,_,(show (KK w).lookup 302=some (o301 PT w.params) from by kernel_rfl)⟩,hbind:=mK λ _=>by kernel_rfl}
abbrev tT:List Stmt:=bE (aG PT 12 1)
abbrev rP:FuncData:=fD z106 z114 (aG PT 12 1) z66 539 308
theorem tM (w:World):bM w 309 rP [z23] tT:={ho:=⟨_,_,_,(show (KK w).lookup 309=some (o308 PT w.params) from by kernel_rfl)⟩,hbind:=mK λ _=>by kernel_rfl}
abbrev tS:List Stmt:=bE (aG PT 12 2)
abbrev rO:FuncData:=fD z71 z115 (aG PT 12 2) z66 539 315
theorem tL (w:World):bM w 316 rO [z23] tS:={ho:=⟨_,_,_,(show (KK w).lookup 316=some (o315 PT w.params) from by kernel_rfl)⟩,hbind:=mK λ _=>by kernel_rfl}
abbrev tV:List Stmt:=bE (aG PT 12 3)
abbrev rR:FuncData:=fD z107 z117 (aG PT 12 3) z66 539 322
theorem tO (w:World):bM w 323 rR [z23,z116] tV:={ho:=⟨_,_,_,(show (KK w).lookup 323=some (o322 PT w.params) from by kernel_rfl)⟩,hbind:=kI λ _ _=>by kernel_rfl}
abbrev sO:List Stmt:=bE (aG PT 12 4)
abbrev pG:FuncData:=fD z108 z120 (aG PT 12 4) z66 539 329
theorem sA (w:World):bM w 330 pG [z23,z116,z118] sO:={ho:=⟨_,_,_,(show (KK w).lookup 330=some (o329 PT w.params) from by kernel_rfl)⟩,hbind:=vX λ _ _ _=>by kernel_rfl}
abbrev nX:List Stmt:=bE (aG PT 12 5)
abbrev mS:FuncData:=fD z109 z121 (aG PT 12 5) z66 539 336
theorem nS (w:World):bM w 337 mS [z23,z116] nX:={ho:=⟨_,_,_,(show (KK w).lookup 337=some (o336 PT w.params) from by kernel_rfl)⟩,hbind:=kI λ _ _=>by kernel_rfl}
abbrev nY:List Stmt:=bE (aG PT 12 6)
abbrev mT:FuncData:=fD z110 z122 (aG PT 12 6) z66 539 341
theorem nT (w:World):bM w 342 mT [z23] nY:={ho:=⟨_,_,_,(show (KK w).lookup 342=some (o341 PT w.params) from by kernel_rfl)⟩,hbind:=mK λ _=>by kernel_rfl}
abbrev zM:List Stmt:=bE (aG PT 14 0)
abbrev wE:FuncData:=fD z38 z143 (aG PT 14 0) z104 643 383
theorem yW (w:World):bM w 384 wE [z23] zM:={ho:=⟨_,_,_,(show (KK w).lookup 384=some (o385 PT w.params) from by kernel_rfl)⟩,hbind:=mK λ _=>by kernel_rfl}
abbrev zJ:List Stmt:=bE (aG PT 14 2)
abbrev wB:FuncData:=fD z78 z145 (aG PT 14 2) z104 643 395
theorem yU (w:World):bM w 396 wB [z23,z92] zJ:={ho:=⟨_,_,_,(show (KK w).lookup 396=some (o397 PT w.params) from by kernel_rfl)⟩,hbind:=kI λ _ _=>by kernel_rfl}
abbrev Bl:List Stmt:=bE (aG PT 14 3)
abbrev fZ:FuncData:=fD z135 z146 (aG PT 14 3) z104 643 400
theorem Be (w:World):bM w 401 fZ [z23,z24,z102] Bl:={ho:=⟨_,_,_,(show (KK w).lookup 401=some (o402 PT w.params) from by kernel_rfl)⟩,hbind:=vX λ _ _ _=>by kernel_rfl}
abbrev jP:List Stmt:=bE (aG PT 14 5)
abbrev cM:FuncData:=fD z136 z148 (aG PT 14 5) z104 643 414
theorem sE (w:World):bM w 415 cM [z23,z92] jP:={ho:=⟨_,_,_,(show (KK w).lookup 415=some (o416 PT w.params) from by kernel_rfl)⟩,hbind:=kI λ _ _=>by kernel_rfl}
abbrev zN:List Stmt:=bE (aG PT 14 6)
abbrev wF:FuncData:=fD z107 z149 (aG PT 14 6) z104 643 421
theorem yX (w:World):bM w 422 wF [z23,z92] zN:={ho:=⟨_,_,_,(show (KK w).lookup 422=some (o423 PT w.params) from by kernel_rfl)⟩,hbind:=kI λ _ _=>by kernel_rfl}
abbrev wR:List Stmt:=bE (aG PT 14 8)
abbrev tJ:FuncData:=fD z108 z152 (aG PT 14 8) z104 643 435
theorem wL (w:World):bM w 436 tJ [z23,z116,z118,z151] wR:={ho:=⟨_,_,_,(show (KK w).lookup 436=some (o437 PT w.params) from by kernel_rfl)⟩,hbind:=Hu λ _ _ _ _=>by kernel_rfl}
abbrev zL:List Stmt:=bE (aG PT 14 9)
abbrev wD:FuncData:=fD z138 z153 (aG PT 14 9) z104 643 442
theorem yV (w:World):bM w 443 wD [z23,z116,z118,z151] zL:={ho:=⟨_,_,_,(show (KK w).lookup 443=some (o444 PT w.params) from by kernel_rfl)⟩,hbind:=Hu λ _ _ _ _=>by kernel_rfl}
abbrev tX:List Stmt:=bE (aG PT 14 10)
abbrev rT:FuncData:=fD z43 z154 (aG PT 14 10) z104 643 449
theorem tQ (w:World):bM w 450 rT [z23] tX:={ho:=⟨_,_,_,(show (KK w).lookup 450=some (o451 PT w.params) from by kernel_rfl)⟩,hbind:=mK λ _=>by kernel_rfl}
abbrev sS:List Stmt:=bE (aG PT 14 12)
abbrev pK:FuncData:=fD z110 z156 (aG PT 14 12) z104 643 463
theorem sF (w:World):bM w 464 pK [z23] sS:={ho:=⟨_,_,_,(show (KK w).lookup 464=some (o465 PT w.params) from by kernel_rfl)⟩,hbind:=mK λ _=>by kernel_rfl}
abbrev sR:List Stmt:=bE (aG PT 14 13)
abbrev pJ:FuncData:=fD z109 z157 (aG PT 14 13) z104 643 470
theorem sD (w:World):bM w 471 pJ [z23,z50] sR:={ho:=⟨_,_,_,(show (KK w).lookup 471=some (o472 PT w.params) from by kernel_rfl)⟩,hbind:=kI λ _ _=>by kernel_rfl}
abbrev pP:List Stmt:=bE (aG PT 14 14)
abbrev nR:FuncData:=fD z140 z158 (aG PT 14 14) z104 643 475
theorem pN (w:World):bM w 476 nR [z23,z50] pP:={ho:=⟨_,_,_,(show (KK w).lookup 476=some (o477 PT w.params) from by kernel_rfl)⟩,hbind:=kI λ _ _=>by kernel_rfl}
abbrev wQ:List Stmt:=bE (aG PT 14 17)
abbrev tI:FuncData:=fD z142 z161 (aG PT 14 17) z104 643 494
theorem wK (w:World):bM w 495 tI [z23,z50] wQ:={ho:=⟨_,_,_,(show (KK w).lookup 495=some (o496 PT w.params) from by kernel_rfl)⟩,hbind:=kI λ _ _=>by kernel_rfl}
abbrev Bk:List Stmt:=bE (bI PT 16)
abbrev yN:FuncData:=fD z131 z131 (bI PT 16) z129 812 508
theorem Bd (w:World):bM w 509 yN [z168,z90] Bk:={ho:=⟨_,_,_,(show (KK w).lookup 509=some (o510 PT w.params) from by kernel_rfl)⟩,hbind:=kI λ _ _=>by kernel_rfl}
abbrev Bj:List Stmt:=bE (bI PT 17)
abbrev yM:FuncData:=fD z132 z132 (bI PT 17) z129 812 515
theorem Bc (w:World):bM w 516 yM [z46,z170,z24,z77] Bj:={ho:=⟨_,_,_,(show (KK w).lookup 516=some (o517 PT w.params) from by kernel_rfl)⟩,hbind:=Hu λ _ _ _ _=>by kernel_rfl}
abbrev zH:List Stmt:=bE (bI PT 18)
abbrev eZ:FuncData:=fD z133 z133 (bI PT 18) z129 812 520
theorem yS (w:World):bM w 521 eZ [z170,z210] zH:={ho:=⟨_,_,_,(show (KK w).lookup 521=some (o522 PT w.params) from by kernel_rfl)⟩,hbind:=kI λ _ _=>by kernel_rfl}
abbrev zG:List Stmt:=bE (bI PT 19)
abbrev iP:FuncData:=fD z134 z134 (bI PT 19) z129 812 525
theorem yR (w:World):bM w 526 iP [z170,z211,z219] zG:={ho:=⟨_,_,_,(show (KK w).lookup 526=some (o527 PT w.params) from by kernel_rfl)⟩,hbind:=vX λ _ _ _=>by kernel_rfl}
abbrev zI:List Stmt:=bE (bI PT 20)
abbrev wA:FuncData:=fD z171 z171 (bI PT 20) z129 812 532
theorem yT (w:World):bM w 533 wA [z168] zI:={ho:=⟨_,_,_,(show (KK w).lookup 533=some (o536 PT w.params) from by kernel_rfl)⟩,hbind:=mK λ _=>by kernel_rfl}
abbrev tR:List Stmt:=bE (bI PT 21)
abbrev rN:FuncData:=fD z172 z172 (bI PT 21) z129 812 537
theorem tK (w:World):bM w 538 rN [z225,z170,z211,z214] tR:={ho:=⟨_,_,_,(show (KK w).lookup 538=some (o541 PT w.params) from by kernel_rfl)⟩,hbind:=Hu λ _ _ _ _=>by kernel_rfl}
open SetTable
noncomputable def Ki (xs:Array Nat):Prop:=∀i k (hi:i<k) (hk:k<xs.size),xs[i]<xs[k]
theorem sM {xs:Array Nat} {j:Nat} (asc:Ki xs):∀(fuel lo hi:Nat),lo≤hi→hi≤xs.size→hi-lo≤fuel→(∀i (h:i<xs.size),i<lo→xs[i]<j)→(∀i (h:i<xs.size),hi≤i→j≤xs[i])→
  below.go xs j fuel lo hi≤xs.size∧(∀i (h:i<xs.size),i<below.go xs j fuel lo hi→xs[i]<j)∧∀i (h:i<xs.size),below.go xs j fuel lo hi≤i→j≤xs[i]
 | 0,lo,hi,h1,h2,h3,h4,h5=>by
  have:lo=hi:=by exact Si h1 h3
  subst this
  unfold below.go
  exact ⟨h2,h4,h5⟩
 | fuel+1,lo,hi,h1,h2,h3,h4,h5=>by
  unfold below.go
  by_cases c:lo<hi
  ·rw[if_pos c]
   dsimp only
   have hm:(lo+hi)/2<xs.size:=by exact Pe h2 c
   have e:xs.getD ((lo+hi)/2) j=xs[(lo+hi)/2]:=by simp[Array.getD,hm]
   rw[e]
   by_cases c2:xs[(lo+hi)/2]<j
   ·rw[if_pos c2]
    refine sM asc fuel _ _ (by exact Tx c) h2 (by exact Qu h3) (λ i h hi'=>?_) h5
    by_cases e2:i=(lo+hi)/2
    ·subst e2;exact c2
    ·exact Nat.lt_trans (asc i _ (by exact Qt hi' e2) hm) c2
   ·rw[if_neg c2]
    refine sM asc fuel _ _ (by exact Tr c) (by exact Nat.le_of_lt ‹_›) (by exact Qv h3) h4 (λ i h hi'=>?_)
    by_cases e2:i=(lo+hi)/2
    ·subst e2;exact Ff c2
    ·have:=asc ((lo+hi)/2) i (by exact Rh hi' e2) h;exact O9 c2 this
  ·rw[if_neg c]
   have:lo=hi:=by exact Sb h1 c
   subst this
   exact ⟨h2,h4,h5⟩
theorem iS {xs:Array Nat} (asc:Ki xs) (j:Nat):below xs j≤xs.size∧(∀i (h:i<xs.size),i<below xs j→xs[i]<j)∧∀i (h:i<xs.size),below xs j≤i→j≤xs[i]:=by
 unfold below
 exact sM asc _ _ _ (by exact Nat.zero_le _) (Nat.le_refl _) (by exact Nat.le_refl _) (λ i h c=>absurd c (by exact Ve)) (λ i h c=>absurd h (by exact Nat.not_lt_of_le ‹_›))
theorem Gj {xs:Array Nat} (asc:Ki xs) {i:Nat} (h:i<xs.size):below xs xs[i]=i:=by
 obtain ⟨h1,h2,h3⟩:=iS asc xs[i]
 rcases Nat.lt_trichotomy (below xs xs[i]) i with c | c | c
 ·have:=h3 (below xs xs[i]) (by exact Nat.lt_trans ‹_› ‹_›) (Nat.le_refl _)
  have:=asc _ i c h
  exact N9 ‹_› this
 ·exact c
 ·have:=h2 i h c;exact Qn this
theorem zD {xs:Array Nat} (asc:Ki xs) {i:Nat} (h:i<xs.size):below xs (xs[i]+1)=i+1:=by
 obtain ⟨h1,h2,h3⟩:=iS asc (xs[i]+1)
 rcases Nat.lt_trichotomy (below xs (xs[i]+1)) (i+1) with c | c | c
 ·have:=h3 i h (by exact Nat.le_of_lt_succ ‹_›);exact Q8 this
 ·exact c
 ·have:=h2 (i+1) (by exact Nat.lt_of_lt_of_le ‹_› ‹_›) c
  have:=asc i (i+1) (by exact Nat.le_refl _) (by exact Nat.lt_of_lt_of_le ‹_› ‹_›)
  exact Om ‹_› this
theorem Bh {xs:Array Nat} (asc:Ki xs):below xs 0=0:=by
 obtain ⟨h1,h2,h3⟩:=iS asc 0
 rcases Nat.eq_zero_or_pos (below xs 0) with c | c
 ·exact c
 ·have:=h2 0 (by exact Nat.lt_of_lt_of_le ‹_› ‹_›) c;exact Un this
theorem jY {xs:Array Nat} (asc:Ki xs) (j:Nat):(xs[below xs j]? ==some j)=true↔j∈xs:=by
 rw[beq_iff_eq]
 constructor
 ·exact λ h=>Array.mem_of_getElem? h
 ·intro h
  obtain ⟨i,hi,e⟩:=Array.mem_iff_getElem.mp h
  subst e
  rw[Gj asc hi]
  exact Array.getElem?_eq_getElem hi
structure cQ (t:SetTable) (n:Nat):Prop where
 dm:t.dummies=#[]
 sz:t.place.size=n
 asc:Ki t.place
 le:∀j∈t.place,j≤t.mask
 fit:n≤t.mask
theorem cQ.fits {t:SetTable} {n:Nat} (h:cQ t n):t.fits n=true:=by
 unfold SetTable.fits SetTable.fill
 rw[h.dm,h.sz]
 simp;exact h.fit
theorem Cz {t:SetTable} {n:Nat} (h:cQ t n) {j:Nat} (hj:j∈t.place):∃i,t.slot j= .live i∧i<n∧t.place[i]? =some j:=by
 refine ⟨below t.place j,?_,?_,?_⟩
 ·unfold SetTable.slot
  dsimp only
  rw[if_pos ((jY h.asc j).mpr hj)]
 ·have:=(jY h.asc j).mpr hj
  rw[beq_iff_eq] at this
  rw[←h.sz]
  exact (Array.getElem?_eq_some_iff.mp this).1
 ·simpa using (jY h.asc j).mpr hj
theorem Ao {t:SetTable} {n:Nat} (h:cQ t n) {j:Nat} (hj:j∉t.place):t.slot j= .empty:=by
 unfold SetTable.slot
 dsimp only
 rw[if_neg (λ e=>hj ((jY h.asc j).mp e))]
 have:has t.dummies j=false:=by rw[h.dm];simp[has]
 rw[this];rfl
theorem Em {t:SetTable} {n:Nat} (h:cQ t n) {j:Nat} (hj:j∉t.place) (hm:j≤t.mask) (hn:n<t.mask):cQ (t.put j).1 (n+1)∧(t.put j).2=below t.place j∧(t.put j).1.mask=t.mask∧(t.put j).1.led=t.led∧(t.put j).1.plain=t.plain∧(t.put j).1.moves=t.moves∧(t.put j).1.finger=t.finger:=by
 have hd:has t.dummies j=false:=by rw[h.dm];simp[has]
 unfold SetTable.put
 dsimp only
 rw[hd]
 refine ⟨?_,rfl,rfl,rfl,rfl,rfl,rfl⟩
 obtain ⟨b1,b2,b3⟩:=iS h.asc j
 have hsz:(insertAt t.place (below t.place j) j).size=n+1:=by
  have:=(SetTable.insertAt_perm t.place (below t.place j) j).length_eq
  rw[Array.length_toList,Array.length_toList,Array.size_push,h.sz] at this
  exact this
 have get:∀i (hi:i<(insertAt t.place (below t.place j) j).size),(insertAt t.place (below t.place j) j)[i]=if hb:i<below t.place j then t.place[i]'(by exact Nat.lt_of_lt_of_le ‹_› ‹_›) else if he:i=below t.place j then j else t.place[i-1]'(by rw[hsz] at hi;rw[h.sz];exact Ql hi hb he):=by
  intro i hi
  have e:(insertAt t.place (below t.place j) j)[i]=(insertAt t.place (below t.place j) j).toList[i]'(by simpa using hi):=by simp
  rw[e]
  have tl:=SetTable.toList_insertAt t.place (below t.place j) j
  have hb1:below t.place j≤t.place.toList.length:=by simpa using b1
  by_cases c1:i<below t.place j
  ·rw[dif_pos c1]
   simp only[tl]
   rw[List.getElem_append_left (by rw[List.length_take];exact Pd hb1 c1)]
   simp
  ·rw[dif_neg c1]
   by_cases c2:i=below t.place j
   ·rw[dif_pos c2]
    simp only[tl]
    rw[List.getElem_append_right (by rw[List.length_take];exact Pv c2)]
    have e3:i-(List.take (below t.place j) t.place.toList).length=0:=by rw[List.length_take];exact Pc hb1 c2
    simp only[e3,List.getElem_cons_zero]
   ·rw[dif_neg c2]
    simp only[tl]
    rw[List.getElem_append_right (by rw[List.length_take];exact O7 c1)]
    have e2:i-(List.take (below t.place j) t.place.toList).length=(i-1-below t.place j)+1:=by rw[List.length_take,Nat.min_eq_left hb1];exact R3 c1 c2
    simp only[e2,List.getElem_cons_succ,List.getElem_drop]
    have e3:below t.place j+(i-1-below t.place j)=i-1:=by exact R2 c1 c2
    simp[e3]
 refine ⟨h.dm,hsz,?_,?_,by show n+1≤t.mask;exact Ts hn⟩
 ·intro i k hik hk
  have hk0:k<(insertAt t.place (below t.place j) j).size:=hk
  show (insertAt t.place (below t.place j) j)[i]'(Nat.lt_trans hik hk0)<(insertAt t.place (below t.place j) j)[k]
  rw[get i (Nat.lt_trans hik hk0),get k hk0]
  have ne:∀i (hi:i<t.place.size),t.place[i]≠j:=λ i hi e=>hj (e▸Array.getElem_mem hi)
  by_cases c1:k<below t.place j
  ·rw[dif_pos (by exact Nat.lt_trans ‹_› ‹_›),dif_pos c1];exact h.asc i k hik (by exact Nat.lt_of_lt_of_le ‹_› ‹_›)
  ·rw[dif_neg c1]
   have hk':k<n+1:=by rw[hsz] at hk;exact hk
   by_cases c2:k=below t.place j
   ·rw[dif_pos c2,dif_pos (by exact Nat.lt_of_lt_of_eq ‹_› ‹_›)];exact b2 i (by exact N7 b1 hik c2) (by exact Nat.lt_of_lt_of_eq ‹_› ‹_›)
   ·rw[dif_neg c2]
    have hk1:k-1<t.place.size:=by rw[h.sz];exact Og hsz hik hk0
    have:=b3 (k-1) hk1 (by exact R1 c1 c2)
    have:=ne (k-1) hk1
    by_cases c3:i<below t.place j
    ·rw[dif_pos c3];exact h.asc i (k-1) (by exact O8 c1 c2 c3) hk1
    ·rw[dif_neg c3]
     by_cases c4:i=below t.place j
     ·rw[dif_pos c4];exact Sh ‹_› this
     ·rw[dif_neg c4];exact h.asc (i-1) (k-1) (by exact Qd hik c3 c4) hk1
 ·intro x hx
  show x≤t.mask
  have hx':x∈(insertAt t.place (below t.place j) j).toList:=by simpa using hx
  have:=(SetTable.insertAt_perm t.place (below t.place j) j).mem_iff.mp hx'
  rw[Array.toList_push,List.mem_append,List.mem_singleton] at this
  rcases this with h1 | rfl
  ·exact h.le x (by simpa using h1)
  ·exact hm
open SetTable
noncomputable def J2 (M:Nat):Nat→Nat→Nat
 | 0,x=>x
 | k+1,x=>J2 M k ((x*5+1)%M)
theorem pX (M:Nat):∀(a b x:Nat),J2 M (a+b) x=J2 M b (J2 M a x)
 | 0,b,x=>by rw[Nat.zero_add];rfl
 | a+1,b,x=>by
  rw[show a+1+b=(a+b)+1 by exact Fd]
  exact pX M a b _
noncomputable def Cb (M:Nat):List Nat:=if M=8 then [0,1,6,7,4,5,2,3] else if M=32 then [0,1,6,15,28,13,2,27,24,25,30,7,20,5,26,19,16,17,22,31,12,29,18,11,8,9,14,23,4,21,10,3] else [0,1,70,111,28,109,2,123,120,25,126,71,20,5,58,83,112,49,54,31,12,29,114,43,104,73,110,119,4,53,42,3,96,97,38,79,124,77,98,91,88,121,94,39,116,101,26,51,80,17,22,127,108,125,82,11,72,41,78,87,100,21,10,99,64,65,6,47,92,45,66,59,56,89,62,7,84,69,122,19,48,113,118,95,76,93,50,107,40,9,46,55,68,117,106,67,32,33,102,15,60,13,34,27,24,57,30,103,52,37,90,115,16,81,86,63,44,61,18,75,8,105,14,23,36,85,74,35]
noncomputable def covers (M:Nat):Bool:=((List.range M).all λ t=>J2 M ((Cb M).getD t 0) 0==t&&decide ((Cb M).getD t 0<M))&&J2 M M 0==0
theorem vA:covers 8=true∧covers 32=true∧covers 128=true:=by decide+kernel
theorem L4 {M:Nat} (h:covers M=true) {i t:Nat} (hi:i<M) (ht:t<M):∃k,k<M∧J2 M k i=t:=by
 unfold covers at h
 rw[Bool.and_eq_true,List.all_eq_true,beq_iff_eq] at h
 obtain ⟨h1,h2⟩:=h
 have a:=h1 i (List.mem_range.mpr hi)
 have b:=h1 t (List.mem_range.mpr ht)
 rw[Bool.and_eq_true,beq_iff_eq,decide_eq_true_eq] at a b
 generalize (Cb M).getD i 0=ka at a
 generalize (Cb M).getD t 0=kb at b
 by_cases c:ka≤kb
 ·refine ⟨kb-ka,by exact Nu b,?_⟩
  have:=pX M ka (kb-ka) 0
  rw[a.1,show ka+(kb-ka)=kb by exact R9 c,b.1] at this
  exact this.symm
 ·refine ⟨M-ka+kb,by exact Nv a c,?_⟩
  have e1:=pX M ka (M-ka) 0
  rw[a.1,show ka+(M-ka)=M by exact Of a,h2] at e1
  rw[pX,←e1];exact b.1
noncomputable def lp (mask:Nat):Nat→Nat×Nat→Nat×Nat
 | 0,x=>x
 | k+1,x=>lp mask k (leap mask x.1 x.2)
theorem Fn (mask:Nat):∀(a b:Nat) (x:Nat×Nat),lp mask (a+b) x=lp mask b (lp mask a x)
 | 0,b,x=>by rw[Nat.zero_add];rfl
 | a+1,b,x=>by
  rw[show a+1+b=(a+b)+1 by exact Fd]
  exact Fn mask a b _
theorem Fm (mask:Nat):∀(k:Nat) (x:Nat×Nat),(lp mask k x).2=x.2/32^k
 | 0,x=>by simp[lp]
 | k+1,x=>by
  show (lp mask k (leap mask x.1 x.2)).2=_
  rw[Fm mask k]
  show x.2/32/32^k=_
  rw[Nat.div_div_eq_div_mul,Nat.pow_succ,Nat.mul_comm]
theorem B6 (mask:Nat):∀(k:Nat) (x:Nat),lp mask k (x,0)=(J2 (mask+1) k x,0)
 | 0,x=>rfl
 | k+1,x=>by
  show lp mask k (leap mask x 0)=_
  have:leap mask x 0=((x*5+1)%(mask+1),0):=by simp[leap]
  rw[this,B6 mask k];rfl
theorem Vo (mask:Nat) {k:Nat} {x:Nat×Nat} (hx:x.1<mask+1):(lp mask k x).1<mask+1:=by
 induction k generalizing x with
 | zero=>exact hx
 | succ k ih=>exact ih (by show (x.1*5+1+x.2/32)%(mask+1)<mask+1;exact Nat.mod_lt _ (Nat.succ_pos _))
theorem H7 (h:Int):bits h<2^64:=by unfold bits;omega
theorem yA {mask:Nat} (hc:covers (mask+1)=true) (h:Int) {t:Nat} (ht:t≤mask):∃k,k≤mask+13∧(lp mask k (bits h%(mask+1),bits h)).1=t:=by
 have h0:(lp mask 13 (bits h%(mask+1),bits h)).2=0:=by
  rw[Fm]
  have:=H7 h
  exact Nat.div_eq_of_lt (Nat.lt_of_lt_of_le this (by decide))
 have hl:=Vo mask (k:=13) (x:=(bits h%(mask+1),bits h)) (Nat.mod_lt _ (Nat.succ_pos _))
 obtain ⟨k,hk,e⟩:=L4 hc hl (show t<mask+1 by exact Nat.lt_succ_of_le ‹_›)
 refine ⟨13+k,by exact Tz hk,?_⟩
 rw[Fn]
 have:lp mask 13 (bits h%(mask+1),bits h)=((lp mask 13 (bits h%(mask+1),bits h)).1,0):=by rw[←h0]
 rw[this,B6]
 exact e
noncomputable def adv (t:SetTable):Nat→Probe→Probe
 | 0,p=>p
 | n+1,p=>adv t n (t.advance p)
theorem qD (t:SetTable):∀(a b:Nat) (p:Probe),adv t (a+b) p=adv t b (adv t a p)
 | 0,b,p=>by rw[Nat.zero_add];rfl
 | a+1,b,p=>by
  rw[show a+1+b=(a+b)+1 by exact Fd]
  exact qD t a b _
noncomputable def jV (mask i perturb:Nat):Probe:={j:=i,more:=runEnd mask i-i,i,perturb,dummy:=none}
theorem Kn (mask i:Nat):runEnd mask i-i≤9:=by unfold runEnd;split<;>(first | exact Vl | exact Vj)
theorem zQ (t:SetTable):∀(n:Nat) (p:Probe),p.more=n→adv t n p={p with j:=p.j+n,more:=0}
 | 0,p,h=>by cases p;simp only at h;subst h;rfl
 | n+1,p,h=>by
  show adv t n (t.advance p)=_
  have e:t.advance p={p with j:=p.j+1,more:=p.more-1}:=by unfold SetTable.advance;rw[if_pos (by exact Tm h)]
  rw[e,zQ t n _ (by show p.more-1=n;exact xW h)]
  simp;exact Je
theorem Ib (t:SetTable) (i perturb:Nat):adv t (runEnd t.mask i-i+1) (jV t.mask i perturb)=jV t.mask (leap t.mask i perturb).1 (leap t.mask i perturb).2:=by
 rw[qD,zQ t (runEnd t.mask i-i) (jV t.mask i perturb) rfl]
 unfold adv adv SetTable.advance
 rw[if_neg (by simp)]
 rfl
theorem vC (t:SetTable):∀(k i perturb:Nat),∃n,n≤10*k∧adv t n (jV t.mask i perturb)=jV t.mask (lp t.mask k (i,perturb)).1 (lp t.mask k (i,perturb)).2
 | 0,i,perturb=>⟨0,Nat.zero_le _,rfl⟩
 | k+1,i,perturb=>by
  obtain ⟨n,hn,e⟩:=vC t k (leap t.mask i perturb).1 (leap t.mask i perturb).2
  refine ⟨runEnd t.mask i-i+1+n,?_,?_⟩
  ·have:=Kn t.mask i;exact Oa hn this
  ·rw[qD,Ib,e];rfl
structure Bo (t:SetTable) (p:Probe):Prop where
 le:p.j+p.more≤t.mask
 dm:p.dummy=none
theorem nF {mask i:Nat} (h:i≤mask):i≤runEnd mask i∧runEnd mask i≤mask:=by unfold runEnd;split<;>(first | exact Uq ‹_› | exact R8 h)
theorem Bo.start (t:SetTable) (h:Int):Bo t (t.probeStart h):=by
 have h1:bits h%(t.mask+1)≤t.mask:=Nat.le_of_lt_succ (Nat.mod_lt _ (Nat.succ_pos _))
 have h2:=nF h1
 refine ⟨?_,rfl⟩
 show bits h%(t.mask+1)+(runEnd t.mask (bits h%(t.mask+1))-bits h%(t.mask+1))≤t.mask
 exact I5 h2
theorem Bo.next {t:SetTable} {p:Probe} (h:Bo t p):Bo t (t.advance p):=by
 have hl:=h.le
 unfold SetTable.advance
 split
 ·exact ⟨by show p.j+1+(p.more-1)≤t.mask;exact Qy hl ‹_›,h.dm⟩
 ·have h1:(p.i*5+1+p.perturb/32)%(t.mask+1)≤t.mask:=Nat.le_of_lt_succ (Nat.mod_lt _ (Nat.succ_pos _))
  have h2:=nF h1
  refine ⟨?_,h.dm⟩
  show (p.i*5+1+p.perturb/32)%(t.mask+1)+(runEnd t.mask ((p.i*5+1+p.perturb/32)%(t.mask+1))-(p.i*5+1+p.perturb/32)%(t.mask+1))≤t.mask
  exact I5 h2
theorem oK {t:SetTable} {n:Nat} (ok:cQ t n) (hc:covers (t.mask+1)=true) (h:Int):∃N,N<10*turns t.mask∧(adv t N (t.probeStart h)).j∉t.place:=by
 obtain ⟨j,hj,hm⟩:∃j,j∉t.place∧j≤t.mask:=by
  refine Classical.byContradiction λ hno=>?_
  have all:∀j,j≤t.mask→j∈t.place.toList:=λ j hj=>Classical.byContradiction λ hx=>hno ⟨j,by simpa using hx,hj⟩
  have:(List.range (t.mask+1)).length≤t.place.toList.length:=by
   refine (List.nodup_range (n:=t.mask+1)).length_le_of_subset ?_
   intro x hx
   exact all x (by have:=List.mem_range.mp hx;exact Jo this)
  rw[List.length_range,Array.length_toList,ok.sz] at this
  have:=ok.fit
  exact Ut ‹_› this
 obtain ⟨k,hk,e⟩:=yA hc h hm
 obtain ⟨N,hN,e2⟩:=vC t k (bits h%(t.mask+1)) (bits h)
 have es:t.probeStart h=jV t.mask (bits h%(t.mask+1)) (bits h):=rfl
 refine ⟨N,by unfold turns;exact Pj hk hN,?_⟩
 rw[es,e2]
 show (lp t.mask k _).1∉_
 rw[e];exact hj
theorem xO {t:SetTable} {n:Nat} (ok:cQ t n) (hashAt:Nat→Int) (h:Int):∀(fuel N:Nat) (p:Probe),Bo t p→N<fuel→(adv t N p).j∉t.place→
  (∃j,probe.go t hashAt h fuel p=some (.empty j none)∧j∉t.place∧j≤t.mask)∨
   ∃k i j,k<N∧probe.go t hashAt h fuel p=some (.candidate j i (adv t (k+1) p))∧t.slot j= .live i∧i<n∧hashAt i=h
 | 0,N,p,_,hf,_=>absurd hf (Nat.not_lt_zero _)
 | fuel+1,N,p,hp,hf,hj=>by
  unfold probe.go
  by_cases c:p.j∈t.place
  ·obtain ⟨i,e1,e2,e3⟩:=Cz ok c
   rw[e1]
   dsimp only
   match N,hj,hf with
   | 0,hj,hf=>exact absurd c hj
   | N+1,hj,hf=>
    by_cases c2:(hashAt i==h)=true
    ·rw[if_pos c2]
     exact .inr ⟨0,i,p.j,Nat.succ_pos _,rfl,e1,e2,eq_of_beq c2⟩
    ·rw[if_neg c2]
     rcases xO ok hashAt h fuel N (t.advance p) hp.next (by exact Nat.le_of_lt_succ ‹_›) hj with q | ⟨k',i',j',h2,h3,h4⟩
     ·exact .inl q
     ·exact .inr ⟨k'+1,i',j',by exact Nat.lt_succ_of_le ‹_›,h3,h4⟩
  ·rw[Ao ok c]
   dsimp only
   refine .inl ⟨p.j,by rw[hp.dm],c,?_⟩
   have:=hp.le
   exact Qx this
theorem oO {t:SetTable} {n:Nat} (ok:cQ t n) (hashAt:Nat→Int) (h:Int) {N:Nat} {p:Probe} (hp:Bo t p) (hN:N<10*turns t.mask) (hj:(adv t N p).j∉t.place):
  (∃j,t.probe hashAt h p=some (.empty j none)∧j∉t.place∧j≤t.mask)∨
   ∃k i j,k<N∧t.probe hashAt h p=some (.candidate j i (adv t (k+1) p))∧t.slot j= .live i∧i<n∧hashAt i=h:=
 xO ok hashAt h _ N p hp hN hj
theorem Bo.adv {t:SetTable}:∀(n:Nat) {p:Probe},Bo t p→Bo t (adv t n p)
 | 0,_,h=>h
 | n+1,_,h=>Bo.adv n h.next
open SetTable
theorem uY {mask:Nat} {owner:Array (Option Nat)} (hs:owner.size=mask+1):∀(fuel i perturb:Nat),i≤mask→(∃k,k<fuel∧owner[(lp mask k (i,perturb)).1]? =some none)→
  ∃j,layClean.free mask owner fuel i perturb=some j∧owner[j]? =some none
 | 0,i,p,_,⟨k,hk,_⟩=>absurd hk (Nat.not_lt_zero _)
 | fuel+1,i,p,hi,⟨k,hk,e⟩=>by
  unfold layClean.free
  have hr:=nF hi
  cases hf:(List.range (runEnd mask i+1-i)).find? λ k=>(owner.getD (i+k) (some 0)).isNone with
  | some k'=>
   have h1:=List.find?_some hf
   have h2:=List.mem_range.mp (List.mem_of_find?_eq_some hf)
   refine ⟨i+k',rfl,?_⟩
   have hlt:i+k'<owner.size:=by exact Nw hs hr h2
   simp only[Array.getD,hlt,dif_pos] at h1
   rw[Array.getElem?_eq_getElem hlt]
   cases h3:owner[i+k'] with
   | none=>rfl
   | some v=>
    have h1':(owner[i+k']).isNone=true:=h1
    rw[h3] at h1';cases h1'
  | none=>
   match k,hk,e with
   | 0,hk,e=>
    exfalso
    have h1:=List.find?_eq_none.mp hf 0 (List.mem_range.mpr (by exact Pg hr))
    have e':owner[i]? =some none:=e
    have hlt:i<owner.size:=by exact P8 hs hi
    rw[Array.getElem?_eq_getElem hlt] at e'
    apply h1
    simp only[Nat.add_zero,Array.getD,hlt,dif_pos]
    have e2:owner[i]=none:=Option.some.inj e'
    show (owner[i]).isNone=true
    rw[e2];rfl
   | k+1,hk,e=>
    exact uY hs fuel (leap mask i p).1 (leap mask i p).2 (Nat.le_of_lt_succ (Nat.mod_lt _ (Nat.succ_pos _))) ⟨k,by exact Nat.le_of_lt_succ ‹_›,e⟩
theorem tF {l:List (Option Nat)} {j k:Nat} (h:l[j]? =some none):((l.set j (some k)).filterMap id).Perm (k::l.filterMap id):=by
 induction l generalizing j with
 | nil=>simp at h
 | cons x r ih=>
  match j,h with
  | 0,h=>
   simp only[List.getElem?_cons_zero,Option.some.injEq] at h
   subst h
   simp
  | j+1,h=>
   have:=ih (j:=j) (by simpa using h)
   cases x with
   | none=>simpa using this
   | some y=>
    simp only[List.set_cons_succ,List.filterMap_cons,id]
    exact (this.cons y).trans (List.Perm.swap ..)
theorem rL {β:Type} {f g:Nat→Option β}:∀{l:List Nat},(∀j∈l,f j=g j)→l.filterMap f=l.filterMap g
 | [],_=>rfl
 | a::r,h=>by rw[List.filterMap_cons,List.filterMap_cons,h a List.mem_cons_self,rL λ j hj=>h j (List.mem_cons_of_mem _ hj)]
theorem Cy {l:List (Option Nat)} (h:(l.filterMap id).length<l.length):∃j:Nat,l[j]? =some none:=by
 induction l with
 | nil=>simp at h
 | cons x r ih=>
  cases x with
  | none=>exact ⟨0,rfl⟩
  | some y=>
   obtain ⟨j,hj⟩:=ih (by simpa using h)
   exact ⟨j+1,by simpa using hj⟩
noncomputable def pW (mask:Nat) (acc:Option (Array (Option Nat)×Nat)) (h:Int):Option (Array (Option Nat)×Nat):=do
 let (owner,k) ←acc
 let j ←layClean.free mask owner (turns mask) (bits h%(mask+1)) (bits h)
 pure (owner.setIfInBounds j (some k),k+1)
theorem yD {mask:Nat} (hc:covers (mask+1)=true):∀(hs:List Int) (owner:Array (Option Nat)) (k:Nat),owner.size=mask+1→(owner.toList.filterMap id).Perm (List.range k)→k+hs.length≤mask+1→
  ∃owner',hs.foldl (pW mask) (some (owner,k))=some (owner',k+hs.length)∧owner'.size=mask+1∧(owner'.toList.filterMap id).Perm (List.range (k+hs.length))
 | [],owner,k,h1,h2,_=>⟨owner,rfl,h1,h2⟩
 | h::hs,owner,k,h1,h2,h3=>by
  rw[List.length_cons] at h3
  obtain ⟨j0,hj0⟩:=Cy (l:=owner.toList) (by rw[h2.length_eq,List.length_range,Array.length_toList];exact Oi h1 h3)
  have hj0':owner[j0]? =some none:=by simpa using hj0
  have hlt:j0≤mask:=by
   have:=(Array.getElem?_eq_some_iff.mp hj0').1
   exact Qa h1 this
  obtain ⟨kk,hkk,e⟩:=yA hc h hlt
  obtain ⟨j,hj,hjn⟩:=uY h1 (turns mask) (bits h%(mask+1)) (bits h) (Nat.le_of_lt_succ (Nat.mod_lt _ (Nat.succ_pos _))) ⟨kk,by unfold turns;exact Sl hkk,by rw[e];exact hj0'⟩
  have step:pW mask (some (owner,k)) h=some (owner.setIfInBounds j (some k),k+1):=by
   unfold pW
   show (layClean.free mask owner (turns mask) (bits h%(mask+1)) (bits h)).bind _=_
   rw[hj];rfl
  rw[List.foldl_cons,step]
  have p2:((owner.setIfInBounds j (some k)).toList.filterMap id).Perm (List.range (k+1)):=by
   rw[Array.toList_setIfInBounds]
   refine (tF (by simpa using hjn)).trans ?_
   rw[List.range_succ]
   exact (h2.cons k).trans (List.perm_append_singleton k _).symm
  obtain ⟨o',e1,e2,e3⟩:=yD hc hs (owner.setIfInBounds j (some k)) (k+1) (by simpa using h1) p2 (by exact Ra h3)
  refine ⟨o',?_,e2,?_⟩
  ·rw[e1,List.length_cons];congr 2;exact Je
  ·rw[List.length_cons,show k+(hs.length+1)=k+1+hs.length by exact Rs];exact e3
theorem yE {mask:Nat} (hc:covers (mask+1)=true) (hs:Array Int) (hn:hs.size≤mask):∃owner,layClean mask hs=some owner∧owner.size=mask+1∧(owner.toList.filterMap id).Perm (List.range hs.size):=by
 obtain ⟨o,e1,e2,e3⟩:=yD hc hs.toList (Array.replicate (mask+1) none) 0 (by simp) (by simp) (by rw[Array.length_toList];exact Sa hn)
 refine ⟨o,?_,e2,by simpa using e3⟩
 unfold layClean
 rw[←Array.foldl_toList]
 show ((hs.toList.foldl (pW mask) (some (Array.replicate (mask+1) none,0))).map (·.1))=some o
 rw[e1];rfl
theorem tH {l:List (Option Nat)}:∀(b:Nat),((List.range' b l.length).filterMap λ j=>((l[j-b]?).join).map (j, ·)).map (·.2)=l.filterMap id:=by
 induction l with
 | nil=>intro b;rfl
 | cons x r ih=>
  intro b
  rw[List.length_cons,List.range'_succ,List.filterMap_cons]
  have tail:((List.range' (b+1) r.length).filterMap λ j=>(((x::r)[j-b]?).join).map (j, ·))=(List.range' (b+1) r.length).filterMap λ j=>((r[j-(b+1)]?).join).map (j, ·):=by
   refine rL λ j hj=>?_
   have:=(List.mem_range'_1.mp hj).1
   have e:j-b=(j-(b+1))+1:=by exact Us this
   rw[e,List.getElem?_cons_succ]
  rw[tail]
  cases x with
  | none=>simpa using ih (b+1)
  | some y=>simpa using ih (b+1)
theorem hO (f:Nat→Option Nat):∀l:List Nat,((l.filterMap λ j=>(f j).map (j, ·)).map (·.1)).Sublist l
 | []=>.slnil
 | j::r=>by
  rw[List.filterMap_cons]
  cases h:f j with
  | none=>exact (hO f r).cons _
  | some y=>simpa using hO f r
theorem pQ {l:List Nat} (h:l.Pairwise (· < ·)):Ki l.toArray:=by
 intro i k hi hk
 rw[List.pairwise_iff_getElem] at h
 have:=h i k (by simpa using (Nat.lt_trans hi hk)) (by simpa using hk) hi
 simpa using this
theorem Hw {mask:Nat} (hc:covers (mask+1)=true) (finger moves:Nat) (led plain:Bool) (hs:Array Int) (hn:hs.size≤mask):
  ∃t order,laid mask finger moves led plain hs=some (t,order)∧cQ t hs.size∧t.mask=mask∧t.led=led∧t.plain=plain∧order.toList.Perm (List.range hs.size):=by
 obtain ⟨o,e1,e2,e3⟩:=yE hc hs hn
 unfold laid
 rw[e1]
 have key:((List.range (mask+1)).filterMap λ j=>(o.getD j none).map (j, ·))=(List.range' 0 o.toList.length).filterMap λ j=>((o.toList[j-0]?).join).map (j, ·):=by
  rw[Array.length_toList,e2,←List.range_eq_range']
  refine rL λ j hj=>?_
  have hlt:j<o.size:=by rw[e2];exact List.mem_range.mp hj
  simp[Array.getD,hlt]
 have snd:(((List.range (mask+1)).filterMap λ j=>(o.getD j none).map (j, ·)).map (·.2))=o.toList.filterMap id:=by rw[key];exact tH 0
 have len:((List.range (mask+1)).filterMap λ j=>(o.getD j none).map (j, ·)).length=hs.size:=by
  have h1:=congrArg List.length snd
  rw[List.length_map,e3.length_eq,List.length_range] at h1
  exact h1
 have sub:(((List.range (mask+1)).filterMap λ j=>(o.getD j none).map (j, ·)).map (·.1)).Sublist (List.range (mask+1)):=hO _ _
 have pw:(((List.range (mask+1)).filterMap λ j=>(o.getD j none).map (j, ·)).map (·.1)).Pairwise (· < ·):=List.Pairwise.sublist sub List.pairwise_lt_range
 refine ⟨_,_,rfl,?_,rfl,rfl,rfl,?_⟩
 ·exact
   {dm:=rfl,sz:=by rw[List.size_toArray,List.length_map];exact len,asc:=pQ pw,le:=λ j hj=>by
     have:=sub.subset (by simpa using hj)
     have:=List.mem_range.mp this
     show j≤mask
     exact Jo this
    fit:=hn}
 ·show (((List.range (mask+1)).filterMap λ j=>(o.getD j none).map (j, ·)).map (·.2)).toArray.toList.Perm _
  rw[List.toList_toArray,snd]
  exact e3
open SetTable
noncomputable abbrev cC (es:Array (Int×Value)) (ep:Nat) (t:SetTable):Obj:={cls:=.type "set",dict:=none,data:=.set es ep t,slots:=#[]}
theorem xT {es:Array (Int×Value)} {ep:Nat} {t:SetTable} (items:Array Value):cC es ep t≠cB items:=λ e=>by have:=congrArg Obj.cls e;simp at this
structure zU (t:SetTable) (n:Nat):Prop where
 mask:t.mask=7∨t.mask=31∨t.mask=127
 room:n*5<t.mask*3
theorem zU.covers {t:SetTable} {n:Nat} (r:zU t n):covers (t.mask+1)=true:=by
 obtain ⟨a,b,c⟩:=vA
 rcases r.mask with h | h | h<;>(rw[h];assumption)
theorem aO.get2 {h:Heap} {ks:List cH} {vs:List Value} {i:Nat} {v:Value} (q:aO h (ks.map cH.av) vs) (hv:vs[i]? =some v):∃k,ks[i]? =some k∧bH h (cH.av k) v:=by
 obtain ⟨x,hx,r⟩:=q.get' hv
 rw[List.getElem?_map] at hx
 obtain ⟨k,hk,rfl⟩:=Option.map_eq_some_iff.mp hx
 exact ⟨k,hk,r⟩
section
variable {prog:Program} {w:World} {A:Around} {E:Value→Shared→Prop} {s:Shared} {S a:Addr} {es:Array (Int×Value)} {ep:Nat} {t:SetTable} {k:cH} {ks:List cH}
theorem oP (hk:(aW prog w).is s.heap k a) {Q:Bool→Shared→Prop} (h:Q false s):wpAny (model prog w) A (ofAClassStatement 8 (.ref a)) Q E s:=by
 have hT:=IsTupleKey.typeIs (knd:=jX prog w) hk
 obtain ⟨o,items,n,ho,hc,hd,hi⟩:=hk
 unfold ofAClassStatement
 refine wpAny_bind (wpAny_typeOf hT ?_)
 show wpAny _ _ ((if ("tuple":String)=="tuple" then pure true else isSubtype (.type "tuple") (.type "tuple"))>>=_) _ _ s
 rw[if_pos (by decide)]
 refine wpAny_bind (wpAny_pure ?_)
 show wpAny _ _ (seqItems? (.ref a)>>=_) _ _ s
 refine wpAny_bind ?_
 show wpAny _ _ (load a>>=_) _ _ s
 refine wpAny_bind (wpAny_load ho ?_)
 rw[hd]
 refine wpAny_pure ?_
 dsimp only
 refine wpAny_bind ?_
 refine forIn_array_ _ (λ rest b s'=>b.1=none∧s'=s∧∃ks,ItemsAre (jX prog w) ks rest) _ ?_ ?_ items _ ⟨rfl,rfl,_,hi⟩
 ·rintro x rest b s' ⟨hb,rfl,ks,hks⟩
  cases hks with
  | @cons k' _ ks' _ h1 h2=>
   have:ofAClassStatement 7 x=pure false:=by
    rcases bZ.shape h1 with ⟨y,u,rfl,rfl⟩ | ⟨m,u,rfl,rfl⟩<;>rfl
   rw[this]
   refine wpAny_bind (wpAny_pure ?_)
   exact wpAny_pure ⟨rfl,rfl,_,h2⟩
 ·rintro b s' ⟨hb,rfl,_⟩
  obtain ⟨b1,b2⟩:=b
  dsimp only at hb
  subst hb
  exact wpAny_pure h
theorem Hh (hk:(aW prog w).is s.heap k a) {Q:Bool→Shared→Prop} (h:Q false s) {ys:List Value} {ks:List cH} (hv:aO s.heap (ks.map cH.av) ys):wpAny (model prog w) A (searchCouldBeSeen (.ref a) ys) Q E s:=by
 unfold searchCouldBeSeen
 refine wpAny_bind ?_
 refine wpAny_forIn_list _ (λ rest b s'=>b.1=none∧s'=s∧∃ks:List cH,aO s.heap (ks.map cH.av) rest) _ ?_ ?_ ys _ ⟨rfl,rfl,ks,hv⟩
 ·rintro y rest b s' ⟨hb,rfl,ks,hks⟩
  match ks,hks with
  | [],hks=>cases hks.nil_inv
  | k'::kr,hks=>
   obtain ⟨v,vr,e,h1,h2⟩:=hks.cons_inv
   cases e
   obtain ⟨a',items,rfl,h3,h4,h5⟩:=iN (prog:=prog) (w:=w) h1
   dsimp only
   by_cases hv:(a==a')=true
   ·rw[hv]
    exact wpAny_pure ⟨rfl,rfl,kr,h2⟩
   ·have hf:(a==a')=false:=by simpa using hv
    have hc:carriedByValue (.ref a)=false:=rfl
    rw[hf,hc]
    simp only[Bool.false_and,Bool.or_false,Bool.false_eq_true,if_false]
    refine wpAny_bind ((aW prog w).quiet hk ?_)
    simp only[Bool.not_true,Bool.false_eq_true,if_false]
    refine wpAny_bind ((aW prog w).quiet h5 ?_)
    simp only[Bool.not_true,Bool.false_eq_true,if_false]
    refine wpAny_bind (oP hk ?_)
    simp only[Bool.false_eq_true,if_false]
    refine wpAny_bind (oP h5 ?_)
    simp only[Bool.false_eq_true,if_false]
    exact wpAny_pure ⟨rfl,rfl,kr,h2⟩
 ·rintro b s' ⟨hb,rfl,_⟩
  obtain ⟨b1,b2⟩:=b
  dsimp only at hb
  subst hb
  exact wpAny_pure h
theorem pD (t:SetTable):t.sameMemory t.moves t.mask=some true:=by unfold SetTable.sameMemory;simp
theorem oH {h:Heap} {p:Int×Value→Bool}:∀{ks:List cH} {es:List (Int×Value)},aO h (ks.map cH.av) (es.map (·.2))→∃ks':List cH,aO h (ks'.map cH.av) ((es.filter p).map (·.2))
 | [],es,q=>by
  have:=q.nil_inv
  rw[List.map_eq_nil_iff] at this
  subst this
  exact ⟨[],.nil⟩
 | k::kr,es,q=>by
  obtain ⟨v,vr,e,h1,h2⟩:=q.cons_inv
  match es,e with
  | x::xr,e=>
   rw[List.map_cons,List.cons.injEq] at e
   obtain ⟨rfl,rfl⟩:=e
   obtain ⟨ks',h3⟩:=oH (p:=p) h2
   by_cases hp:p x=true
   ·exact ⟨k::ks',by rw[List.filter_cons_of_pos hp];exact .cons h1 h3⟩
   ·exact ⟨ks',by rw[List.filter_cons_of_neg hp];exact h3⟩
theorem xP {n:Nat} (ok:cQ t n) {hashAt:Nat→Int} {h:Int} {met:Option Met} {N:Nat} {p:Probe} (e:t.probe hashAt h p=met) (hp:Bo t p) (hN:N<10*turns t.mask) (hj:(adv t N p).j∉t.place):
  (∃j,met=some (.empty j none)∧j∉t.place∧j≤t.mask)∨
   ∃k i j,k<N∧met=some (.candidate j i (adv t (k+1) p))∧t.slot j= .live i∧i<n:=by
 subst e
 rcases oO ok hashAt h hp hN hj with q | ⟨k,i,j,h1,h2,h3,h4,_⟩
 ·exact .inl q
 ·exact .inr ⟨k,i,j,h1,h2,h3,h4⟩
theorem qP (hu:A.units<cLine) (hS:s.heap.get? S=some (cC es ep t)) (ok:cQ t es.size) (odd:t.gaveWay=false) (hv:aO s.heap (ks.map cH.av) (es.toList.map (·.2))) (hk:(aW prog w).is s.heap k a) {hsh:Int} {Q:SetFound→Shared→Prop}
  (there:∀r,k∈ks→Q (.there r) s) (free:∀j,j∉t.place→j≤t.mask→Q (.free j false) s):
  ∀(fuel N:Nat) (p:Probe) (st:Option Probe),st.getD (t.probeStart hsh)=p→Bo t p→N<fuel→N<10*turns t.mask→(adv t N p).j∉t.place→wpAny (model prog w) A (setSearchFrom S (.ref a) hsh true fuel st) Q E s
 | 0,N,p,st,_,_,hf,_,_=>absurd hf (Nat.not_lt_zero _)
 | fuel+1,N,p,st,hst,hp,hf,hN,hj=>by
  unfold setSearchFrom
  refine wpAny_bind (wpAny_setState_of hS rfl ok.fits ?_)
  dsimp only
  rw[odd]
  simp only[Bool.false_eq_true,if_false]
  rw[hst]
  generalize hm:t.probe _ hsh p=met
  rcases xP ok hm hp hN hj with ⟨j,rfl,e2,e3⟩ | ⟨n,i,j,h1,rfl,h3,h4⟩
  ·exact wpAny_pure (free j e2 e3)
  ·dsimp only
   obtain ⟨ks',hv'⟩:=oH (p:=λ e=>e.1==hsh) hv
   obtain ⟨e0,he0⟩:∃e0,es[i]? =some e0:=⟨es[i],Array.getElem?_eq_getElem h4⟩
   obtain ⟨k',hk1,hk2⟩:=hv.get2 (i:=i) (v:=e0.2) (by rw[List.getElem?_map,Array.getElem?_toList,he0];rfl)
   obtain ⟨a',items,e5,h6,h7,h8⟩:=iN (prog:=prog) (w:=w) hk2
   obtain ⟨e01,e02⟩:=e0
   dsimp only at e5 hk2
   subst e5
   have rest:wpAny (model prog w) A (do
     let equal ←holding [Value.ref a'] (eqBool (.ref a') (.ref a))
     let x ←setState S
     if (true&&equal)=true then pure (SetFound.there none) else
     match x.2.2.sameMemory t.moves t.mask with
     | some same=>
      match if same=true then x.2.2.slot j else Slot.empty with
      | .live i'=>match x.1[i']? with
       | some (_,y')=>do
        let b ←isSame y' (.ref a')
        let still ←pure (if b=true then some i' else none)
        match still with
        | none=>do rule "set.search.anew";setSearchFrom S (Value.ref a) hsh true fuel none
        | some i'=>if equal=true then pure (SetFound.there (some i')) else setSearchFrom S (Value.ref a) hsh true fuel (some (adv t (n+1) p))
       | none=>do
        let still ←pure none
        match still with
        | none=>do rule "set.search.anew";setSearchFrom S (Value.ref a) hsh true fuel none
        | some i'=>if equal=true then pure (SetFound.there (some i')) else setSearchFrom S (Value.ref a) hsh true fuel (some (adv t (n+1) p))
      | _=>do
       let still ←pure none
       match still with
       | none=>do rule "set.search.anew";setSearchFrom S (Value.ref a) hsh true fuel none
       | some i'=>if equal=true then pure (SetFound.there (some i')) else setSearchFrom S (Value.ref a) hsh true fuel (some (adv t (n+1) p))
     | _=>unsupported "set.changed-during-lookup:is-the-new-block-at-the-old-address") Q E s:=by
    refine wpAny_bind (wpAny_holding ((aW prog w).eqBool hu h8 hk ?_))
    refine wpAny_bind (wpAny_setState_of hS rfl ok.fits ?_)
    dsimp only
    by_cases hkk:k'=k
    ·subst hkk
     rw[decide_eq_true rfl]
     exact wpAny_pure (there _ (List.mem_of_getElem? hk1))
    ·rw[decide_eq_false hkk]
     simp only[Bool.and_false,Bool.false_eq_true,if_false]
     rw[pD]
     dsimp only
     rw[if_pos rfl,h3]
     dsimp only
     rw[he0]
     dsimp only
     refine wpAny_bind (wpAny_isSame_ref_self (wpAny_bind (wpAny_pure ?_)))
     rw[if_pos rfl]
     dsimp only
     refine qP hu hS ok odd hv hk there free fuel (N-(n+1)) (adv t (n+1) p) _ rfl (hp.adv _) (by exact Qm hf h1) (by exact Qs hN) ?_
     rw[←qD,show n+1+(N-(n+1))=N by exact Tt h1];exact hj
   by_cases hl:(!t.led)=true
   ·rw[if_pos hl]
    refine wpAny_bind (Hh hk ?_ (ks:=ks') (by rw[Array.toList_filter];exact hv'))
    simp only[Bool.false_eq_true,if_false]
    rw[he0]
    exact rest
   ·rw[if_neg hl,he0]
    exact rest
end
open SetTable
noncomputable def vE (led:Bool) (h:Heap) (S:Addr) (ps:List (Int×Value)):Prop:=
 ∃es ep t,h.get? S=some (cC es ep t)∧cQ t es.size∧zU t es.size∧t.led=led∧es.toList.Perm ps
theorem zU.odd {t:SetTable} {n:Nat} (r:zU t n):t.gaveWay=false:=by
 unfold SetTable.gaveWay
 rcases r.mask with h | h | h<;>(rw[h];rfl)
theorem kB {h:Heap} {S:Addr} {es es':Array (Int×Value)} {ep:Nat} {t t':SetTable} (hS:h.get? S=some (cC es ep t)):
  (h.update S (Obj.putSet es' t')).get? S=some (cC es' (ep+1) t'):=
 Heap.get?_update_self (Obj.putSet es' t') hS rfl
theorem bL:4096≤sizeLine:=by decide
theorem rI {t:SetTable} {n:Nat} (ok:cQ t (n+1)) (hm:t.mask=7∨t.mask=31∨t.mask=127) (hr:n*5<t.mask*3) (hn:n<76):
  (t.tooFull=false∧zU t (n+1))∨(t.tooFull=true∧∃m,(m=31∨m=127)∧sizeAbove (grown (n+1))=m+1∧(n+1)*5<m*3):=by
 have hf:t.fill=n+1:=by unfold SetTable.fill;rw[ok.dm,ok.sz];simp
 unfold SetTable.tooFull
 rw[hf]
 by_cases c:(n+1)*5≥t.mask*3
 ·refine .inr ⟨by simpa using c,?_⟩
  rcases hm with e | e | e<;>rw[e] at c hr
  ·have:n=4:=by exact BC hr c
   subst this
   exact ⟨31,.inl rfl,by decide,by decide⟩
  ·have:n=18:=by exact BD hr c
   subst this
   exact ⟨127,.inr rfl,by decide,by decide⟩
  ·omega
 ·exact .inl ⟨by simpa using c,⟨hm,by exact Nat.lt_of_not_le ‹_›⟩⟩
theorem uK {t:SetTable} {n m:Nat} (hm:m=31∨m=127) (hs:sizeAbove (grown n)=m+1) (hn:n*5<m*3) (es:Array (Int×Value)) (he:es.size=n):
  ∃t' order,t.relaid (es.map (·.1)) (grown n)=some (t',order)∧cQ t' n∧zU t' n∧t'.led=t.led∧order.toList.Perm (List.range n)∧(order.filterMap (es[·]?)).toList.Perm es.toList∧(order.filterMap (es[·]?)).size=n:=by
 have hc:covers (m+1)=true:=by
  obtain ⟨_,b,c⟩:=vA
  rcases hm with h | h<;>(rw[h];assumption)
 unfold SetTable.relaid
 rw[hs]
 obtain ⟨t',order,e1,e2,e3,e4,_,e6⟩:=Hw (mask:=m) hc t.finger (t.movedTo m) t.led t.plain (es.map (·.1)) (by rw[Array.size_map,he];exact Uu hn)
 rw[Array.size_map,he] at e2 e6
 have hp:(order.filterMap (es[·]?)).toList.Perm es.toList:=by
  rw[Array.toList_filterMap]
  exact (e6.filterMap _).trans (by rw[←he,filterMap_getElem?_range])
 refine ⟨t',order,e1,e2,⟨by rw[e3];rcases hm with h | h<;>simp[h],by rw[e3];exact hn⟩,e4,e6,hp,?_⟩
 rw[←Array.length_toList,hp.length_eq,Array.length_toList,he]
theorem small {n m:Nat} (hm:m=31∨m=127) (hs:sizeAbove (grown n)=m+1):¬sizeAbove (grown n)>sizeLine:=by
 rw[hs]
 have:=bL
 rcases hm with h | h<;>(first | exact Uv this h | exact Uw this h)
theorem oW {es:Array (Int×Value)} (p:Nat) (e:Int×Value):(insertAt es p e).size=es.size+1:=by
 have:=(SetTable.insertAt_perm es p e).length_eq
 simpa using this
theorem oY {es:Array (Int×Value)} {ps:List (Int×Value)} (h:es.toList.Perm ps) (p:Nat) (e:Int×Value):(insertAt es p e).toList.Perm (e::ps):=by
 refine (SetTable.insertAt_perm es p e).trans ?_
 rw[Array.toList_push]
 exact (List.perm_append_singleton e _).trans (h.cons e)
section
variable {prog:Program} {w:World} {A:Around} {E:Value→Shared→Prop} {s:Shared} {S a:Addr} {ps:List (Int×Value)} {k:cH} {led:Bool}
theorem pF (hk:(aW prog w).is s.heap k a) {Q:Bool→Shared→Prop} (h:∀b,Q b s):wpAny (model prog w) A (hashByValue 8 (.ref a)) Q E s:=by
 have hT:=IsTupleKey.typeIs (knd:=jX prog w) hk
 obtain ⟨o,items,n,ho,hc,hd,hi⟩:=hk
 unfold hashByValue
 refine wpAny_bind (wpAny_specialOf hT PySem.F.slot_tuple_hash.lookup ?_)
 dsimp only
 refine wpAny_bind (wpAny_seqItems ho hd ?_)
 dsimp only[Option.getD]
 refine wpAny_bind ?_
 refine forIn_array_ _ (λ rest b s'=>b.1=none∧s'=s∧∃ks,ItemsAre (jX prog w) ks rest) _ ?_ ?_ items _ ⟨rfl,rfl,_,hi⟩
 ·rintro x rest b s' ⟨hb,rfl,ks,hks⟩
  cases hks with
  | @cons k' _ ks' _ h1 h2=>
   rcases bZ.shape h1 with ⟨y,u,rfl,rfl⟩ | ⟨m,u,rfl,rfl⟩
   ·show wpAny _ _ ((pure false:Sem Bool)>>=_) _ _ _
    refine wpAny_bind (wpAny_pure ?_)
    exact wpAny_pure (show wpAny _ _ (pure false) _ _ _ from wpAny_pure (h _))
   ·show wpAny _ _ ((pure true:Sem Bool)>>=_) _ _ _
    refine wpAny_bind (wpAny_pure ?_)
    exact wpAny_pure ⟨rfl,rfl,_,h2⟩
 ·rintro b s' ⟨hb,rfl,_⟩
  obtain ⟨b1,b2⟩:=b
  dsimp only at hb
  subst hb
  exact wpAny_pure (h _)
noncomputable def iU (h:Heap) (ps:List (Int×Value)):Prop:=∀p∈ps,∃k:cH,bH h (cH.av k) p.2
theorem iU.vs {h:Heap}:∀{ps:List (Int×Value)},iU h ps→∃ks:List cH,aO h (ks.map cH.av) (ps.map (·.2))∧∀k∈ks,∃p∈ps,bH h (cH.av k) p.2
 | [],_=>⟨[],.nil,nn⟩
 | p::r,H=>by
  obtain ⟨k,hk⟩:=H p List.mem_cons_self
  obtain ⟨ks,h1,h2⟩:=iU.vs (ps:=r) λ q hq=>H q (List.mem_cons_of_mem _ hq)
  refine ⟨k::ks,.cons hk h1,λ k' hk'=>?_⟩
  rcases List.mem_cons.mp hk' with rfl | hm
  ·exact ⟨p,List.mem_cons_self,hk⟩
  ·obtain ⟨q,hq,h3⟩:=h2 k' hm
   exact ⟨q,List.mem_cons_of_mem _ hq,h3⟩
theorem iU.perm {h:Heap} {ps qs:List (Int×Value)} (H:iU h ps) (p:qs.Perm ps):iU h qs:=λ e he=>H e (p.mem_iff.mp he)
theorem Ar (hu:A.units<cLine) (hS:vE led s.heap S ps) (hks:iU s.heap ps) (hk:(aW prog w).is s.heap k a) (hn:ps.length<76) {Q:Bool→Shared→Prop}
  (there:(∃p∈ps,bH s.heap (cH.av k) p.2)→∀tk,Q false {s with toks:=tk})
  (new:∀h' tk,Heap.SameBut S s.heap h'→vE led h' S (((aW prog w).hash k,.ref a)::ps)→Q true {s with heap:=h',toks:=tk}):
  wpAny (model prog w) A (setAdd S (.ref a)) Q E s:=by
 obtain ⟨es,ep,t,h1,ok,room,hl,hp⟩:=hS
 have hsz:es.size=ps.length:=by rw[←Array.length_toList,hp.length_eq]
 obtain ⟨ks,hv,hin⟩:=(hks.perm hp).vs
 unfold setAdd
 refine wpAny_holding (wpAny_bind ((aW prog w).pyHash hu hk ?_))
 generalize hsh:(aW prog w).hash k=hash at new⊢
 generalize htk:s.toks+(aW prog w).draws k=tk0
 unfold setAddHashed
 refine wpAny_holding ?_
 show wpAny _ _ (setAddHashedIn S (.ref a) hash (99999+1)) _ _ _
 unfold setAddHashedIn
 refine wpAny_bind (wpAny_setState_of h1 rfl ok.fits ?_)
 dsimp only
 have hb:byScan (.ref a) es=false:=rfl
 rw[hb]
 simp only[Bool.false_eq_true,if_false]
 refine wpAny_bind ?_
 unfold setSearch
 obtain ⟨N,hN,hj⟩:=oK ok room.covers hash
 have hbig:N<100000:=by
  have:turns t.mask<1000:=by
   unfold turns
   rcases room.mask with h | h | h<;>(rw[h];decide)
  exact Um hN this
 refine qP (s:={s with toks:=tk0}) hu h1 ok room.odd hv hk (λ r hr=>?_) (λ j hj1 hj2=>?_) 100000 N (t.probeStart hash) none rfl (Bo.start t hash) hbig hN hj
 ·dsimp only
  obtain ⟨p,hp1,hp2⟩:=hin k hr
  exact wpAny_pure (there ⟨p,hp.mem_iff.mp hp1,hp2⟩ _)
 ·dsimp only
  refine wpAny_bind (wpAny_setState_of h1 rfl ok.fits ?_)
  dsimp only
  obtain ⟨o1,o2,o3,o4,o5,o6,o7⟩:=Em ok hj1 hj2 (by have:=room.room;exact Jw this)
  generalize hput:t.put j=tp at o1 o2 o3 o4 o5 o6 o7
  obtain ⟨t1,p⟩:=tp
  dsimp only at o1 o2 o3 o4 o5 o6 o7⊢
  have isz:=oW (es:=es) p (hash,Value.ref a)
  have ipm:=oY hp p (hash,Value.ref a)
  have tail:∀t2:SetTable,cQ t2 (es.size+1)→t2.mask=t.mask→t2.led=led→wpAny (model prog w) A (do
    storeSet S (insertAt es p (hash,Value.ref a)) t2
    if (!false&&t2.tooFull)=true then do setRelay S (grown (es.size+1));pure true
    else pure true) Q E {s with toks:=tk0}:=by
   intro t2 k1 k2 k3
   refine wpAny_bind (wpAny_storeSet_of h1 rfl ?_ (by have:=bL;rw[isz];exact B3 hn hsz this))
   have g1:=kB (es':=insertAt es p (hash,Value.ref a)) (t':=t2) h1
   have sb1:=Heap.SameBut.update s.heap S (Obj.putSet (insertAt es p (hash,Value.ref a)) t2)
   rcases rI k1 (by rw[k2];exact room.mask) (by rw[k2];exact room.room) (by exact Jp hn hsz) with ⟨c1,c2⟩ | ⟨c1,m,c2,c3,c4⟩
   ·rw[c1]
    simp only[Bool.and_false,Bool.false_eq_true,if_false]
    exact wpAny_pure (new _ _ sb1 ⟨_,_,_,g1,by rw[isz];exact k1,by rw[isz];exact c2,k3,ipm⟩)
   ·rw[c1]
    simp only[Bool.not_false,Bool.and_true,if_true]
    refine wpAny_bind ?_
    unfold setRelay
    refine wpAny_bind (wpAny_setState_of g1 rfl (by rw[isz];exact k1.fits) ?_)
    dsimp only
    rw[if_neg (small c2 c3)]
    obtain ⟨t',order,r1,r2,r3,r4,r5,r6,r7⟩:=uK (t:=t2) c2 c3 c4 (insertAt es p (hash,Value.ref a)) isz
    rw[r1]
    refine wpAny_bind ?_
    show wpAny _ _ (if ((order.filterMap ((insertAt es p (hash,Value.ref a))[·]?)).size !=(insertAt es p (hash,Value.ref a)).size)=true then _ else _) _ _ _
    rw[r7,isz,if_neg (by simp)]
    refine wpAny_pure ?_
    dsimp only
    refine wpAny_storeSet_of g1 rfl ?_ (by have:=bL;rw[r7];exact B3 hn hsz this)
    have g2:=kB (es':=order.filterMap ((insertAt es p (hash,Value.ref a))[·]?)) (t':=t') g1
    exact wpAny_pure (new _ _ (sb1.trans (Heap.SameBut.update _ S _)) ⟨_,_,_,g2,by rw[r7];exact r2,by rw[r7];exact r3,by rw[r4];exact k3,r6.trans ipm⟩)
  by_cases hpl:t1.plain=true
  ·rw[if_pos hpl]
   refine wpAny_bind (pF (s:={s with toks:=tk0}) hk λ b=>?_)
   cases b
   ·exact tail {t1 with plain:=false} ⟨o1.dm,o1.sz,o1.asc,o1.le,o1.fit⟩ o3 (o4.trans hl)
   ·exact tail t1 o1 o3 (o4.trans hl)
  ·rw[if_neg hpl]
   refine wpAny_bind (wpAny_pure ?_)
   exact tail t1 o1 o3 (o4.trans hl)
end
open SetTable
section
variable {prog:Program} {w:World} {A:Around} {E:Value→Shared→Prop} {s:Shared} {S a:Addr} {ps:List (Int×Value)} {led:Bool}
theorem H3 {t:SetTable} {n:Nat} (ok:cQ t n) (hc:covers (t.mask+1)=true) (h:Int):∃j,t.freeSlot h=some (j,false)∧j∉t.place∧j≤t.mask:=by
 obtain ⟨N,hN,hj⟩:=oK ok hc h
 unfold SetTable.freeSlot
 rcases oO ok (λ _=>h+1) h (Bo.start t h) hN hj with ⟨j,e1,e2,e3⟩ | ⟨_,_,_,_,_,_,_,e⟩
 ·exact ⟨j,by rw[e1];rfl,e2,e3⟩
 ·omega
theorem xK {t:SetTable} {n m:Nat} (hm:m=31∨m=127) (hs:sizeAbove (grown n)=m+1) (hn:n*5<m*3) (es:Array (Int×Value)) (he:es.size=n):
  ∃t' es',relayAll t es (grown n)=(es',t',false)∧cQ t' n∧zU t' n∧t'.led=t.led∧es'.toList.Perm es.toList∧es'.size=n:=by
 obtain ⟨t',order,r1,r2,r3,r4,r5,r6,r7⟩:=uK (t:=t) hm hs hn es he
 refine ⟨t',_,?_,r2,r3,r4,r6,r7⟩
 unfold relayAll
 rw[r1]
 dsimp only
 have c:(coversAll order es.size&&t'.fits (order.filterMap (es[·]?)).size)=true:=by
  rw[r7,r2.fits,Bool.and_true]
  unfold coversAll
  rw[he]
  exact List.isPerm_iff.mpr r5
 rw[if_pos c]
noncomputable def tB (prog:Program) (w:World) (ps:List (Int×Value)):Prop:=∀p∈ps,∃n t,p=((intKind prog w).hash n,Value.int n t)
theorem tB.elems (H:tB prog w ps):ElemsOf (intKind prog w) ps:=λ e he=>by
 obtain ⟨n,t,rfl⟩:=H e he
 exact ⟨⟨n,intKind_is _ _ _ _,rfl⟩,rfl⟩
theorem As {m:Int} {u:Tok} (hS:vE led s.heap S ps) (hks:tB prog w ps) (hn:ps.length<76) {Q:Bool→Shared→Prop}
  (there:(∃h t,(h,Value.int m t)∈ps)→∀tk,Q false {s with toks:=tk})
  (new:∀h' tk,Heap.SameBut S s.heap h'→vE led h' S (((intKind prog w).hash m,Value.int m u)::ps)→Q true {s with heap:=h',toks:=tk}):
  wpAny (model prog w) A (setAdd S (.int m u)) Q E s:=by
 obtain ⟨es,ep,t,h1,ok,room,hl,hp⟩:=hS
 have hsz:es.size=ps.length:=by rw[←Array.length_toList,hp.length_eq]
 have hel:ElemsOf (intKind prog w) es.toList:=ElemsOf.perm hks.elems hp
 unfold setAdd
 refine wpAny_holding (wpAny_bind ((intKind prog w).pyHash (k:=m) (intKind_is _ _ _ _) ?_))
 generalize hsh:(intKind prog w).hash m=hash at new⊢
 unfold setAddHashed
 refine wpAny_holding ?_
 show wpAny _ _ (setAddHashedIn S (.int m u) hash (99999+1)) _ _ _
 unfold setAddHashedIn
 refine wpAny_bind (wpAny_setState_of h1 rfl ok.fits ?_)
 dsimp only
 rw[byScan_of (knd:=intKind prog w) rfl (by have:scanBound=4096:=rfl;exact Qo hn hsz this) hel,if_pos rfl]
 refine wpAny_bind ?_
 unfold setAddByScan
 refine wpAny_bind (wpAny_rule ?_)
 refine wpAny_bind ?_
 rw[←hsh]
 refine wpAny_setScan_of (knd:=intKind prog w) (k:=m) (intKind_is _ _ _ _) h1 rfl ok.fits hel ?_
 rw[hsh]
 cases hf:es.toList.findIdx? (λ e=>(intKind prog w).is m e.2) with
 | some j=>
  dsimp only
  refine wpAny_pure (wpAny_pure ?_)
  refine there ?_ _
  obtain ⟨hlt,h2,_⟩:=List.findIdx?_eq_some_iff_getElem.mp hf
  obtain ⟨t',e⟩:=Value.isInt_shape h2
  refine ⟨es.toList[j].1,t',hp.mem_iff.mp ?_⟩
  rw[←e]
  exact List.getElem_mem hlt
 | none=>
  dsimp only
  obtain ⟨j,f1,hj1,hj2⟩:=H3 ok room.covers hash
  obtain ⟨o1,o2,o3,o4,o5,o6,o7⟩:=Em ok hj1 hj2 (by have:=room.room;exact Jw this)
  have isz:=oW (es:=es) (t.put j).2 (hash,Value.int m u)
  have ipm:=oY hp (t.put j).2 (hash,Value.int m u)
  have lay:layNew t es hash (.int m u)=(insertAt es (t.put j).2 (hash,Value.int m u),(t.put j).1,false,false):=by
   unfold layNew
   rw[f1]
   dsimp only
   unfold SetTable.orStandIn
   rw[isz,o1.fits];rfl
  rw[lay]
  dsimp only
  refine wpAny_bind (wpAny_pure ?_)
  rw[hashByValue_scannable 8 rfl]
  generalize hput:t.put j=tp at o1 o2 o3 o4 o5 o6 o7 isz ipm⊢
  obtain ⟨t1,p⟩:=tp
  dsimp only at o1 o2 o3 o4 o5 o6 o7 isz ipm⊢
  have tail:∀g:Bool→Sem Unit,(∀s1 (Q':Unit→Shared→Prop),Q' () s1→wpAny (model prog w) A (g false) Q' E s1)→wpAny (model prog w) A (do
    storeSet S (insertAt es p (hash,Value.int m u)) t1
    if (!false&&t1.tooFull)=true then do
      g (relayAll t1 (insertAt es p (hash,Value.int m u)) (grown (insertAt es p (hash,Value.int m u)).size)).2.2
      storeSet S (relayAll t1 (insertAt es p (hash,Value.int m u)) (grown (insertAt es p (hash,Value.int m u)).size)).1 (relayAll t1 (insertAt es p (hash,Value.int m u)) (grown (insertAt es p (hash,Value.int m u)).size)).2.1
      pure (some true)
     else pure (some true)) (λ a s'=>wpAny (model prog w) A (match a with | some added=>pure added | none=>setAddHashedIn S (Value.int m u) hash 99999) Q E s') E {s with toks:=s.toks+1}:=by
   intro g hg
   refine wpAny_bind (wpAny_storeSet_of h1 rfl ?_ (by have:=bL;rw[isz];exact B3 hn hsz this))
   have g1:=kB (es':=insertAt es p (hash,Value.int m u)) (t':=t1) h1
   have sb1:=Heap.SameBut.update s.heap S (Obj.putSet (insertAt es p (hash,Value.int m u)) t1)
   rcases rI o1 (by rw[o3];exact room.mask) (by rw[o3];exact room.room) (by exact Jp hn hsz) with ⟨c1,c2⟩ | ⟨c1,mk,c2,c3,c4⟩
   ·rw[c1]
    simp only[Bool.and_false,Bool.false_eq_true,if_false]
    exact wpAny_pure (wpAny_pure (new _ _ sb1 ⟨_,_,_,g1,by rw[isz];exact o1,by rw[isz];exact c2,o4.trans hl,ipm⟩))
   ·rw[c1]
    simp only[Bool.not_false,Bool.and_true,if_true]
    obtain ⟨t',es',r1,r2,r3,r4,r5,r6⟩:=xK (t:=t1) c2 c3 c4 (insertAt es p (hash,Value.int m u)) isz
    rw[isz,r1]
    dsimp only
    refine wpAny_bind (hg _ _ ?_)
    refine wpAny_bind (wpAny_storeSet_of g1 rfl ?_ (by have:=bL;rw[r6];exact B3 hn hsz this))
    have g2:=kB (es':=es') (t':=t') g1
    exact wpAny_pure (wpAny_pure (new _ _ (sb1.trans (Heap.SameBut.update _ S _)) ⟨_,_,_,g2,by rw[r6];exact r2,by rw[r6];exact r3,r4.trans (o4.trans hl),r5.trans ipm⟩))
  by_cases e:t1.plain=true
  ·rw[if_pos e]
   refine wpAny_bind (wpAny_pure ?_)
   exact tail _ λ s1 Q' h=>wpAny_pure h
  ·rw[if_neg e]
   refine wpAny_bind (wpAny_pure ?_)
   exact tail _ λ s1 Q' h=>wpAny_pure h
end
open SetTable
noncomputable def Dq (p:Program) (w:World) (b:Bool) (h:Heap) (ps:List (Int×Value)):Prop:=if b=true then tB p w ps else iU h ps
noncomputable def Dr (b:Bool) (x:AV):Prop:=if b=true then ∃n,x= .int n else ∃k,x=cH.av k
noncomputable def Wh (h:Heap) (xs:List AV) (ps:List (Int×Value)):Prop:=(∀p∈ps,∃x∈xs,bH h x p.2)∧∀x∈xs,∃p∈ps,bH h x p.2
noncomputable def dM (p:Program) (w:World) (b led:Bool) (xs:List AV) (h:Heap) (S:Addr):Prop:=
 ∃ps,vE led h S ps∧Dq p w b h ps∧Wh h xs ps∧ps.length≤xs.length
theorem Wh.ev {h h':Heap} {xs:List AV} {ps:List (Int×Value)} (e:Ev h h') (q:Wh h xs ps):Wh h' xs ps:=
 ⟨λ p hp=>let ⟨x,hx,hv⟩:=q.1 p hp;⟨x,hx,hv.ev e⟩,λ x hx=>let ⟨p,hp,hv⟩:=q.2 x hx;⟨p,hp,hv.ev e⟩⟩
theorem Dq.ev {p:Program} {w:World} {b:Bool} {h h':Heap} {ps:List (Int×Value)} (e:Ev h h') (q:Dq p w b h ps):Dq p w b h' ps:=by
 unfold Dq at q⊢
 split
 ·rename_i hb;rw[if_pos hb] at q;exact q
 ·rename_i hb;rw[if_neg hb] at q;exact λ x hx=>let ⟨k,hk⟩:=q x hx;⟨k,hk.ev e⟩
theorem dM.ok (p:Program) (w:World) (b led:Bool) (xs:List AV) (S:Addr):J8 (dM p w b led xs) S where
 mono:=λ h h' e k ⟨ps,⟨es,ep,t,h1,r⟩,h2,h3,h4⟩=>⟨ps,⟨es,ep,t,k _ h1,r⟩,h2.ev e,h3.ev e,h4⟩
 obj:=λ h ⟨ps,⟨es,ep,t,h1,r⟩,_⟩=>⟨_,h1,λ items=>xT items⟩
theorem Ev.set {h h':Heap} {S:Addr} {led:Bool} {ps:List (Int×Value)} (q:vE led h S ps) (e:Heap.SameBut S h h'):Ev h h':=by
 obtain ⟨es,ep,t,h1,r⟩:=q
 intro a items ha
 rw[e.2 a]
 ·exact ha
 ·rintro rfl
  rw[h1] at ha
  exact xT items (Option.some.inj ha)
section
variable {prog:Program} {w:World} {A:Around} {E:Value→Shared→Prop} {s:Shared} {S:Addr} {b led:Bool} {xs:List AV} {x:AV} {v:Value}
theorem Ek (hu:A.units<cLine) (hS:dM prog w b led xs s.heap S) (hx:Dr b x) (hv:bH s.heap x v) (hn:xs.length<76) {Q:Bool→Shared→Prop}
  (h:∀r h' tk,Heap.SameBut S s.heap h'→Ev s.heap h'→dM prog w b led (xs++[x]) h' S→Q r {s with heap:=h',toks:=tk}):
  wpAny (model prog w) A (setAdd S v) Q E s:=by
 obtain ⟨ps,h1,h2,h3,h4⟩:=hS
 cases b with
 | true=>
  obtain ⟨m,rfl⟩:∃n,x= .int n:=hx
  rw[VIs_int] at hv
  obtain ⟨u,rfl⟩:=hv
  have h2':tB prog w ps:=h2
  refine As h1 h2' (by exact Nat.lt_of_le_of_lt ‹_› ‹_›) (λ ⟨hh,t,hm⟩ tk=>?_) λ h' tk sb hS'=>?_
  ·refine h _ s.heap tk (Heap.SameBut.refl _ _) (Ev.refl _) ⟨ps,h1,h2,⟨λ p hp=>?_,λ y hy=>?_⟩,by rw[List.length_append];exact I3 h4⟩
   ·obtain ⟨y,hy,hyv⟩:=h3.1 p hp
    exact ⟨y,List.mem_append_left _ hy,hyv⟩
   ·rcases List.mem_append.mp hy with hy | hy
    ·exact h3.2 y hy
    ·rw[List.mem_singleton.mp hy];exact ⟨_,hm,VIs_int.mpr ⟨t,rfl⟩⟩
  ·have e:=Ev.set h1 sb
   refine h _ h' tk sb e ⟨_,hS',λ p hp=>?_,⟨λ p hp=>?_,λ y hy=>?_⟩,by rw[List.length_append,List.length_cons];simp;exact h4⟩
   ·rcases List.mem_cons.mp hp with rfl | hp
    ·exact ⟨m,u,rfl⟩
    ·exact h2' p hp
   ·rcases List.mem_cons.mp hp with rfl | hp
    ·exact ⟨_,List.mem_append_right _ List.mem_cons_self,VIs_int.mpr ⟨u,rfl⟩⟩
    ·obtain ⟨y,hy,hyv⟩:=h3.1 p hp
     exact ⟨y,List.mem_append_left _ hy,hyv.ev e⟩
   ·rcases List.mem_append.mp hy with hy | hy
    ·obtain ⟨p,hp,hyv⟩:=h3.2 y hy
     exact ⟨p,List.mem_cons_of_mem _ hp,hyv.ev e⟩
    ·rw[List.mem_singleton.mp hy];exact ⟨_,List.mem_cons_self,VIs_int.mpr ⟨u,rfl⟩⟩
 | false=>
  obtain ⟨k,rfl⟩:∃k,x=cH.av k:=hx
  obtain ⟨a,items,rfl,h5,h6,h7⟩:=iN (prog:=prog) (w:=w) hv
  have h2':iU s.heap ps:=h2
  refine Ar hu h1 h2' h7 (by exact Nat.lt_of_le_of_lt ‹_› ‹_›) (λ ⟨p,hp,hpv⟩ tk=>?_) λ h' tk sb hS'=>?_
  ·refine h _ s.heap tk (Heap.SameBut.refl _ _) (Ev.refl _) ⟨ps,h1,h2,⟨λ p hp=>?_,λ y hy=>?_⟩,by rw[List.length_append];exact I3 h4⟩
   ·obtain ⟨y,hy,hyv⟩:=h3.1 p hp
    exact ⟨y,List.mem_append_left _ hy,hyv⟩
   ·rcases List.mem_append.mp hy with hy | hy
    ·exact h3.2 y hy
    ·rw[List.mem_singleton.mp hy];exact ⟨_,hp,hpv⟩
  ·have e:=Ev.set h1 sb
   refine h _ h' tk sb e ⟨_,hS',λ p hp=>?_,⟨λ p hp=>?_,λ y hy=>?_⟩,by rw[List.length_append,List.length_cons];simp;exact h4⟩
   ·rcases List.mem_cons.mp hp with rfl | hp
    ·exact ⟨k,hv.ev e⟩
    ·obtain ⟨k',hk'⟩:=h2' p hp
     exact ⟨k',hk'.ev e⟩
   ·rcases List.mem_cons.mp hp with rfl | hp
    ·exact ⟨_,List.mem_append_right _ List.mem_cons_self,hv.ev e⟩
    ·obtain ⟨y,hy,hyv⟩:=h3.1 p hp
     exact ⟨y,List.mem_append_left _ hy,hyv.ev e⟩
   ·rcases List.mem_append.mp hy with hy | hy
    ·obtain ⟨p,hp,hyv⟩:=h3.2 y hy
     exact ⟨p,List.mem_cons_of_mem _ hp,hyv.ev e⟩
    ·rw[List.mem_singleton.mp hy];exact ⟨_,List.mem_cons_self,hv.ev e⟩
theorem Ei {R:Result→Shared→Prop} {I L:Addr} {items:Array Value} {h₁:Heap} (hh:A.in1.handled=none) (hne:L≠I) (hu:A.in1.units<cLine) (hSI:S≠I) (hSL:S≠L) (hb:items.size≤76) (hall:∀x∈xs,Dr b x) (hvs:aO h₁ xs items.toList):
  ∀(k i:Nat) (s:Shared),items.size-i=k→i≤items.size→s.heap.IsListIter I L i→s.heap.IsList L items→Ev h₁ s.heap→dM prog w b led (xs.take i) s.heap S→
   (∀h' tk,(∀c o,c≠S→c≠I→s.heap.get? c=some o→h'.get? c=some o)→Ev s.heap h'→dM prog w b led xs h' S→R (.ok (.ret .none)) {s with heap:=h',toks:=tk})→
   codeAny (model prog w) A (.builtin "set.update.loop" ⟨[.ref S,.ref I],[]⟩) R s:=by
 have W:=Walks.list (prog:=prog) (w:=w) hh I L hne items
 have evI:∀{h h':Heap} {i:Nat},h.IsListIter I L i→(∀c o,c∉[I]→h.get? c=some o→h'.get? c=some o)→Ev h h':=λ ⟨o,ho,hc,hd⟩ hk c its hc'=>by
  refine hk c _ ?_ hc'
  rw[List.mem_singleton]
  rintro rfl
  rw[hc'] at ho
  cases ho;cases hd
 have hlen:=hvs.length
 rw[Array.length_toList] at hlen
 intro k
 induction k with
 | zero=>
  intro i s hk hi hst1 hst2 hev hS hR
  have hin:i=items.size:=by exact Jr hk hi
  subst hin
  rw[List.take_of_length_le (by exact Nat.le_of_eq (Eq.symm ‹_›))] at hS
  refine codeAny_builtin F.entry_set_update_loop ?_
  rw[Around.under_plainId F.plain_set_update_loop _]
  show wpAny _ A.in1 (pyNext (.ref I)>>=_) _ _ s
  refine wpAny_bind (W.done s _ _ ⟨hst1,hst2⟩ λ h' tk hm=>?_)
  show wpAny _ A.in1 (ret Value.none) _ _ _
  have e:=evI hst1 hm
  exact wpAny_pure (hR h' tk (λ c o _ hcI=>hm c o (by rw[List.mem_singleton];exact hcI)) e ((dM.ok ..).mono _ _ e (λ o=>hm S o (by rw[List.mem_singleton];exact hSI)) hS))
 | succ k ih=>
  intro i s hk hi hst1 hst2 hev hS hR
  have hlt:i<items.size:=by exact Qw hk
  refine codeAny_builtin F.entry_set_update_loop ?_
  rw[Around.under_plainId F.plain_set_update_loop _]
  show wpAny _ A.in1 (pyNext (.ref I)>>=_) _ _ s
  refine wpAny_bind (W.item i s _ _ hlt ⟨hst1,hst2⟩ λ v h' tk hP hst' hm=>?_)
  have e:=evI hst1 hm
  obtain ⟨x,hx,hv⟩:=hvs.get' (i:=i) (v:=v) (by rw[Array.getElem?_toList];exact hP)
  have hxl:i<xs.length:=by exact Nat.lt_of_lt_of_eq ‹_› ‹_›
  have hx':xs[i]=x:=by rw[List.getElem?_eq_getElem hxl] at hx;exact Option.some.inj hx
  show wpAny _ A.in1 (holding [v] (setAdd S v)>>=_) _ _ _
  refine wpAny_bind (wpAny_holding ?_)
  refine Ek (s:={s with heap:=h',toks:=tk}) (xs:=xs.take i) hu ((dM.ok ..).mono _ _ e (λ o=>hm S o (by rw[List.mem_singleton];exact hSI)) hS) (hall x (hx'▸List.getElem_mem hxl)) (hv.ev (hev.trans e)) (by rw[List.length_take];exact Pm hb hlt) λ r h2 tk2 sb e2 hS2=>?_
  rw[show xs.take i++[x]=xs.take (i+1) by rw[List.take_succ,hx];rfl] at hS2
  refine wpAny_pure ⟨plainId_quiet F.plain_set_update_loop _,ih (i+1) _ (by exact I8 hk) hlt ?_ ?_ ((hev.trans e).trans e2) hS2 λ h3 tk3 k3 e3 hS3=>?_⟩
  ·obtain ⟨o,ho,r⟩:=hst'.1
   exact ⟨o,by show h2.get? I=_;rw[sb.2 I hSI.symm];exact ho,r⟩
  ·obtain ⟨o,ho,r⟩:=hst'.2
   exact ⟨o,by show h2.get? L=_;rw[sb.2 L hSL.symm];exact ho,r⟩
  ·refine hR h3 tk3 (λ c o hcS hcI hc=>k3 c o hcS hcI ?_) ((e.trans e2).trans e3) hS3
   show h2.get? c=_
   rw[sb.2 c hcS];exact hm c o (by rw[List.mem_singleton];exact hcI) hc
end
open SetTable
theorem cQ.fresh (led:Bool):cQ (.fresh 0 0 led) 0:=⟨rfl,rfl,λ i k _ h=>absurd h (by simp[SetTable.fresh]),λ j h=>absurd h (by simp[SetTable.fresh]),by simp[SetTable.fresh]⟩
theorem dM.fresh {p:Program} {w:World} {b led:Bool} {h:Heap} {S:Addr} (e:h.get? S=some (cC #[] 0 (.fresh 0 0 led))):dM p w b led [] h S:=
 ⟨[],⟨_,_,_,e,cQ.fresh led,⟨.inl rfl,(by show 0*5<7*3;decide)⟩,rfl,.refl _⟩,by unfold Dq;split<;>exact nofun,⟨nofun,nofun⟩,Nat.le_refl _⟩
noncomputable def eT (w:World):Bool:= !(w.params.followText "set-order")
section
variable {prog:Program} {w:World} {A:Around} {E:Value→Shared→Prop} {s:Shared} {b:Bool} {xs:List AV}
theorem nV (a:Value) {Q₁:Value→Shared→Prop}
  (h:Q₁ (.ref s.heap.objs.size) {s with heap:=s.heap.push (cC #[] 0 (.fresh 0 0 (eT w)))}):
  codeAny (model prog w) A (.call (.builtin "set.__new__") ⟨[.type "set",a],[]⟩) (wants Q₁ E) s:=by
 refine codeAny_of_tree ?_
 show wpAny _ A.in1 (do checkBuiltinCall "set.__new__" ⟨[.type "set",a],[]⟩;again (.builtin "set.__new__" ⟨[.type "set",a],[]⟩)) _ _ s
 refine wpAny_bind (wpAny_of_eq (PySem.F.newCall_set_1 a) (wpAny_pure ⟨plainId_quiet PySem.F.plain_set_new _,codeAny_builtin PySem.F.entry_set_new ?_⟩))
 rw[Around.under_plainId PySem.F.plain_set_new _]
 unfold Builtin.«set.__new__» Builtin.Frozenset.newClass
 have hsub:=sub_set_self
 obtain ⟨hp,g,d,tk,os⟩:=s
 dsimp only
 wp_walk
 refine wpAny_askSetting (wpAny_pure ?_)
 dsimp only
 simp only[newObj]
 refine wpAny_bind (wpAny_alloc (wpAny_pure ?_))
 exact wpAny_pure h
set_option maxHeartbeats 3200000 in
theorem wM {l:Addr} {items:Array Value} {nl:Nat} {Q:Value→Shared→Prop}
  (hu:A.units+6<cLine) (hh:A.handled=none) (hol:s.heap.get? l=some (listOf items nl)) (hb:items.size≤76) (hall:∀x∈xs,Dr b x) (hvs:aO s.heap xs items.toList)
  (h:∀(h':Heap) (tk:Nat),(∀c o,s.heap.get? c=some o→h'.get? c=some o)→dM prog w b (eT w) xs h' s.heap.objs.size→Q (.ref s.heap.objs.size) {s with heap:=h',toks:=tk}):
  wpAny (model prog w) A (call (.type "set") [.ref l]) Q E s:=by
 obtain ⟨c,tl,hmro⟩:=PySem.F.called_set.mro
 have hmade:=PySem.F.called_set.made
 have hsub:=PySem.F.called_set.sub
 refine wpAny_call (codeAny_of_tree ?_)
 show wpAny _ _ (callAny (.type "set") _) _ _ _
 refine wpAny_pure ⟨Code.quiet_builtin _ (by decide+kernel),codeAny_builtin PySem.F.entry_type_call ?_⟩
 rw[Around.under_plain (weight_type_call_type "set" [.ref l] []) rfl]
 have h1:=PySem.F.called_set.notType
 have h2:=PySem.F.called_set.canCreate
 have hct:=PySem.F.typeCall_set_1 (.ref l)
 repeat (any_goals (first | assumption | wp_step))
 refine codeAny_mono (nV (.ref l) (E:=E) (Q₁:=λ obj s1=>obj= .ref s.heap.objs.size∧s1={s with heap:=s.heap.push (cC #[] 0 (.fresh 0 0 (eT w)))}) ⟨rfl,rfl⟩) λ r s1 hr=>?_
 cases r with
 | error e=>exact hr
 | ok fl=>
  cases fl with
  | ret obj=>
   obtain ⟨rfl,rfl⟩:=hr
   have hS:(s.heap.push (cC #[] 0 (.fresh 0 0 (eT w)))).get? s.heap.objs.size=some (cC #[] 0 (.fresh 0 0 (eT w))):=Heap.get?_push_size _ rfl
   have hT:Shared.TypeIs {s with heap:=s.heap.push (cC #[] 0 (.fresh 0 0 (eT w)))} (.ref s.heap.objs.size) "set":=⟨_,hS,rfl⟩
   have hli:=PySem.F.called_set.init.lookup
   have hbi:=PySem.F.called_set.init.bind (.ref s.heap.objs.size)
   repeat (any_goals (first | assumption | wp_step))
   refine codeAny_mono (codeAny_call_builtin (R:=wants (λ r s2=>r= .none∧∃h' tk,s2={s with heap:=h',toks:=tk}∧
     (∀c o,s.heap.get? c=some o→h'.get? c=some o)∧dM prog w b (eT w) xs h' s.heap.objs.size) E) PySem.F.called_set.init.plain PySem.F.entry_set_init (PySem.check_set_init_1 hT ?_)) λ r2 s2 hr2=>?_
   ·have hol':(s.heap.push (cC #[] 0 (.fresh 0 0 (eT w)))).get? l=some (listOf items nl):=Heap.get?_push_of_some _ hol
    have hsls:=PySem.F.sub_list_set
    have hslf:=PySem.F.sub_list_frozenset
    have hne:(Value.type "list"==Value.type "dict")=false:=by decide
    have hl1:(s.heap.push (cC #[] 0 (.fresh 0 0 (eT w)))).IsList l items:=⟨_,hol',rfl,nl,rfl⟩
    unfold Builtin.«set.__init__» noKeywords Builtin.Frozenset.updateFrom
    generalize hPI:pyIter=PI
    wp_walk
    subst hPI
    refine wpAny_pyIter_list hl1 ?_
    refine wpAny_bind (wpAny_runValue ?_)
    have hlS:l<s.heap.objs.size:=Heap.lt_size hol
    have hh3:A.in1.in1.in1.handled=none:=by simp[hh]
    have hneI:l≠(s.heap.push (cC #[] 0 (.fresh 0 0 (eT w)))).objs.size:=by
     rw[Heap.size_push];exact Nat.ne_of_lt (Nat.lt_succ_of_lt hlS)
    have kpp:∀c o,s.heap.get? c=some o→((s.heap.push (cC #[] 0 (.fresh 0 0 (eT w)))).push {cls:=.type "list_iterator",data:=.fields #[.ref l,.int 0 0]}).get? c=some o:=λ c o e=>Heap.get?_push_of_some _ (Heap.get?_push_of_some _ e)
    refine Ei (I:=(s.heap.push (cC #[] 0 (.fresh 0 0 (eT w)))).objs.size) (L:=l) (items:=items) (h₁:=s.heap) (S:=s.heap.objs.size) (xs:=xs) (b:=b) (led:=eT w) hh3 hneI ?hu ?hSI (Nat.ne_of_gt hlS) hb hall hvs (items.size-0) 0 _ (by exact Vk) (Nat.zero_le _) ⟨_,Heap.get?_push_size _ rfl,rfl,rfl⟩ (hl1.push _) (Ev.keeps kpp) ?hS0 ?hR
    case hu=>show A.units+3<cLine;exact Ur hu
    case hSI=>rw[Heap.size_push];exact Nat.ne_of_lt (Nat.lt_succ_self _)
    case hS0=>exact dM.fresh (Heap.get?_push_of_some _ hS)
    case hR=>
     intro h' tk hk e hS'
     show wpAny _ _ _ _ _ _
     refine wpAny_pure ?_
     show wpAny _ _ (ret Value.none) _ _ _
     refine wpAny_pure ⟨rfl,h',tk,rfl,λ c o hc=>?_,hS'⟩
     have hb:=Heap.lt_size hc
     exact hk c o (Nat.ne_of_lt hb) (by rw[Heap.size_push];exact Nat.ne_of_lt (Nat.lt_succ_of_lt hb)) (kpp c o hc)
   ·cases r2 with
    | error e=>exact hr2
    | ok fl2=>
     cases fl2 with
     | ret r=>
      obtain ⟨rfl,h',tk,rfl,hk',hS'⟩:=hr2
      repeat (any_goals (first | assumption | wp_step))
      exact h _ _ hk' hS'
     | _=>exact hr2.elim
  | _=>exact hr.elim
end
open SetTable
theorem kO:Slot "set" "__iter__" "set.__iter__":=
 .of (owner:="set") (n:="__iter__") (by rw[typeLookup_type,builtinLookup_eq_fast];kernel_rfl) (by decide+kernel) (by decide+kernel) (by decide+kernel)
  (by first | exact .inl (by decide+kernel) | exact .inr (by decide+kernel)) (by rw[isSubtype_type];kernel_rfl)
theorem rZ:entryFor table "set.__iter__"=some Builtin.«frozenset.__iter__» :=entryFor_alias (id':="frozenset.__iter__") (by kernel_rfl) rfl (by decide+kernel) (by kernel_rfl)
theorem tY (a:Value):argsOk "set.__iter__" ⟨[a],[]⟩:=by
 unfold argsOk
 rw[PySem.signature?_of (id:="set.__iter__") (n:=['_','_','r','e','t','i','_','_']) (o:=['t','e','s']) (by kernel_rfl) PySem.F.owner_set];kernel_rfl
theorem cJ:Slot "set_iterator" "__next__" "set_iterator.__next__":=
 .of (owner:="set_iterator") (n:="__next__") (by rw[typeLookup_type,builtinLookup_eq_fast];kernel_rfl) (by decide+kernel) (by decide+kernel) (by decide+kernel)
  (by first | exact .inl (by decide+kernel) | exact .inr (by decide+kernel)) (by rw[isSubtype_type];kernel_rfl)
theorem iX:entryFor table "set_iterator.__next__"=some Builtin.«set_iterator.__next__» :=entryFor_of_tree (by kernel_rfl)
theorem Av:Manifest.owners.lookup (String.ofList ['r','o','t','a','r','e','t','i','_','t','e','s'].reverse)=some Manifest.sig_set_iterator:=by kernel_rfl
theorem jQ (a:Value):argsOk "set_iterator.__next__" ⟨[a],[]⟩:=by
 unfold argsOk
 rw[PySem.signature?_of (id:="set_iterator.__next__") (n:=['_','_','t','x','e','n','_','_']) (o:=['r','o','t','a','r','e','t','i','_','t','e','s']) (by kernel_rfl) Av];kernel_rfl
noncomputable abbrev Ca (first:Value) (i:Nat) (S:Addr) (n ep:Nat):Obj:={cls:=.type "set_iterator",data:=.fields #[first,rawInt i,.ref S,rawInt n,rawInt ep]}
theorem rV {α:Type} {l:List α} {i:Nat} (h:i<l.length):(l[i]::l.eraseIdx i).Perm l:=by
 rw[List.eraseIdx_eq_take_drop_succ]
 refine List.perm_middle.symm.trans ?_
 rw[←List.drop_eq_getElem_cons h,List.take_append_drop]
theorem Bv {α:Type} (next:Nat→Nat):∀(fuel k:Nat) (left:List α) (out:Array α),left.length=fuel→(pickOrder.go next fuel k left out).toList.Perm (out.toList++left)
 | 0,k,left,out,h=>by rw[List.length_eq_zero_iff.mp h];unfold pickOrder.go;simp
 | fuel+1,k,left,out,h=>by
  unfold pickOrder.go
  have hlt:next k%left.length<left.length:=Nat.mod_lt _ (by exact Tq h)
  rw[List.getElem?_eq_getElem hlt]
  dsimp only
  refine (Bv next fuel (k+1) _ _ (by rw[List.length_eraseIdx,if_pos hlt];exact xW h)).trans ?_
  rw[Array.toList_push,List.append_assoc]
  refine List.Perm.append_left _ ?_
  exact (rV hlt)
theorem nG {α:Type} (next:Nat→Nat) (xs:Array α):(pickOrder next xs).toList.Perm xs.toList:=by
 unfold pickOrder
 exact (Bv next xs.size 0 xs.toList #[] (by simp)).trans (by simp)
section
variable {prog:Program} {w:World} {A:Around} {E:Value→Shared→Prop} {s:Shared} {S I:Addr} {es:Array (Int×Value)} {ep:Nat} {t:SetTable}
theorem vH {M:Model} {src:Source} {n:Nat} {Q:Nat→Shared→Prop} (hn:n≠0) (h:∀i,i<n→Q i {s with drawn:=s.drawn.bump src}):wpAny M A (choose src n) Q E s:=
 λ _ _ _=>⟨hn,h _ (Nat.mod_lt _ (Nat.pos_of_ne_zero hn))⟩
theorem iW {M:Model} {α:Type}:∀(n:Nat) (xs:List α) (s:Shared) (Q:List α→Shared→Prop),xs.length=n→(∀ys d,ys.Perm xs→Q ys {s with drawn:=d})→wpAny M A (drawOrder n xs) Q E s
 | 0,xs,s,Q,h,hQ=>by
  rw[List.length_eq_zero_iff.mp h]
  unfold drawOrder
  exact wpAny_pure (hQ [] s.drawn (by rw[List.length_eq_zero_iff.mp h]))
 | n+1,[],s,Q,h,hQ=>by simp at h
 | n+1,x::r,s,Q,h,hQ=>by
  unfold drawOrder
  refine wpAny_bind (vH (by simp) λ i hi=>?_)
  rw[List.getElem?_eq_getElem hi]
  dsimp only
  refine wpAny_bind (iW n _ _ _ (by rw[List.length_eraseIdx,if_pos hi];exact xW h) λ ys d hp=>?_)
  exact wpAny_pure (hQ _ _ ((hp.cons _).trans (rV hi)))
theorem dT {Q:Bool→Shared→Prop} (h:Q (w.params.followText "set-order") s):wpAny (model prog w) A setsByText Q E s:=by
 unfold setsByText
 exact wpAny_bind (wpAny_askSetting (wpAny_pure h))
end
open SetTable
noncomputable def zV (w:World) (h:Heap) (S:Addr) (es:Array (Int×Value)) (ep:Nat) (t:SetTable) (i:Nat) (first:Value) (ys:List Value):Prop:=
 (w.params.followText "set-order"=true∧(∃slot u,first= .int slot u)∧ys=(pickOrder (w.params.setOrder S ep) es).toList.map (·.2))∨
 (w.params.followText "set-order"=false∧(!t.plain&&decide (es.size>1))=false∧(∃slot:Nat,first=rawInt slot∧below t.place slot=i)∧ys=es.toList.map (·.2))∨
 (w.params.followText "set-order"=false∧(∃(T:Addr) (pl:List Nat),first= .ref T∧h.get? T=some (cB (pl.map λ j:Nat=>rawInt j).toArray)∧pl.Perm (List.range es.size)∧ys.length=pl.length∧∀i j:Nat,pl[i]? =some j→∃e:Int×Value,es[j]? =some e∧ys[i]? =some e.2))
structure zY (w:World) (h:Heap) (I S:Addr) (es:Array (Int×Value)) (ep:Nat) (t:SetTable) (ys:List Value) (i:Nat):Prop where
 set:h.get? S=some (cC es ep t)
 it:∃first,h.get? I=some (Ca first i S es.size ep)∧zV w h S es ep t i first ys
theorem zV.perm {w:World} {h:Heap} {S:Addr} {es:Array (Int×Value)} {ep:Nat} {t:SetTable} {i:Nat} {first:Value} {ys:List Value} (m:zV w h S es ep t i first ys):ys.length=es.size:=by
 rcases m with ⟨_,_,rfl⟩ | ⟨_,_,_,rfl⟩ | ⟨_,T,pl,_,_,hp,hl,_⟩
 ·rw[List.length_map,(nG _ es).length_eq,Array.length_toList]
 ·rw[List.length_map,Array.length_toList]
 ·rw[hl,hp.length_eq,List.length_range]
theorem zV.all {w:World} {h:Heap} {S:Addr} {es:Array (Int×Value)} {ep:Nat} {t:SetTable} {i:Nat} {first:Value} {ys:List Value} (m:zV w h S es ep t i first ys):∀v,v∈ys↔v∈es.toList.map (·.2):=by
 rcases m with ⟨_,_,rfl⟩ | ⟨_,_,_,rfl⟩ | ⟨_,T,pl,_,_,hp,hl,hf⟩
 ·exact λ v=>((nG _ es).map _).mem_iff
 ·exact λ v=>.rfl
 ·intro v
  constructor
  ·intro hv
   obtain ⟨i,hi,rfl⟩:=List.mem_iff_getElem.mp hv
   obtain ⟨e,h1,h2⟩:=hf i (pl[i]'(by exact Nat.lt_of_lt_of_eq ‹_› ‹_›)) (List.getElem?_eq_getElem (by exact Nat.lt_of_lt_of_eq ‹_› ‹_›))
   rw[List.getElem?_eq_getElem hi] at h2
   rw[Option.some.inj h2]
   exact List.mem_map.mpr ⟨e,by simpa using Array.mem_of_getElem? h1,rfl⟩
  ·intro hv
   obtain ⟨e,he,rfl⟩:=List.mem_map.mp hv
   obtain ⟨j,hj,rfl⟩:=List.mem_iff_getElem.mp he
   rw[Array.length_toList] at hj
   obtain ⟨i,hi,e2⟩:=List.mem_iff_getElem.mp (hp.mem_iff.mpr (List.mem_range.mpr hj))
   obtain ⟨e',h1,h2⟩:=hf i j (by rw[List.getElem?_eq_getElem hi,e2])
   rw[Array.getElem?_eq_getElem hj] at h1
   cases h1
   exact List.mem_of_getElem? (by simpa using h2)
section
variable {prog:Program} {w:World} {A:Around} {E:Value→Shared→Prop} {s:Shared} {S I:Addr} {es:Array (Int×Value)} {ep:Nat} {t:SetTable} {ys:List Value} {i:Nat}
theorem Aq (h1:s.heap.get? S=some (cC es ep t)) (ok:cQ t es.size) (hn:es.size≤200) {Q:Value→Shared→Prop}
  (h:∀I h' d ys,s.heap.objs.size≤I→(∀b o,s.heap.get? b=some o→h'.get? b=some o)→zY w h' I S es ep t ys 0→Q (.ref I) {s with heap:=h',drawn:=d}):
  wpAny (model prog w) A (pyIter (.ref S)) Q E s:=by
 have hT:s.TypeIs (.ref S) "set":=⟨_,h1,rfl⟩
 refine wpAny_pyIter_slot hT kO (wpAny_call_entry kO hT rZ ?_ (tY _))
 unfold Builtin.«frozenset.__iter__»
 show wpAny _ _ ((pure S:Sem Addr)>>=_) _ _ s
 refine wpAny_bind (wpAny_pure ?_)
 have st:∀{s1:Shared} {α:Type} {f:(Array (Int×Value)×Nat×SetTable)→Sem α} {Q1:α→Shared→Prop} {E1:Value→Shared→Prop} {A1:Around},s1.heap.get? S=some (cC es ep t)→wpAny (model prog w) A1 (f (es,ep,t)) Q1 E1 s1→wpAny (model prog w) A1 (setState S>>=f) Q1 E1 s1:=λ hs hq=>wpAny_bind (wpAny_setState_of hs rfl ok.fits hq)
 refine wpAny_bind ?_
 refine wpAny_bind (st h1 (wpAny_pure ?_))
 refine wpAny_pure ?_
 dsimp only
 have fin:∀(first:Value) (s1:Shared),s1.heap.get? S=some (cC es ep t)→wpAny (model prog w) A.in1 (do ret (←newFields "set_iterator" [first,rawInt 0,.ref S,rawInt es.size,rawInt (←setEpoch S)])) (λ f s'=>∃r,f=Fin.done (.ret r)∧s'={s1 with heap:=s1.heap.push (Ca first 0 S es.size ep)}∧r= .ref s1.heap.objs.size) E s1:=by
  intro first s1 hs
  refine wpAny_bind (st hs (wpAny_pure ?_))
  refine wpAny_bind (wpAny_newObj_type ?_ (by size_fits))
  exact wpAny_pure ⟨_,rfl,rfl,rfl⟩
 refine wpAny_bind ?_
 unfold setDrawn
 refine wpAny_bind (wpAny_setState_of h1 rfl ok.fits ?_)
 dsimp only
 refine wpAny_bind (dT (wpAny_pure ?_))
 show wpAny _ _ (if (!w.params.followText "set-order"&&(!t.plain&&decide (es.size>1)))=true then _ else _) _ _ _
 by_cases hb:w.params.followText "set-order"=true
 ·rw[hb,if_neg (by simp)]
  refine wpAny_bind (wpAny_pure ?_)
  refine wpAny_mono (fin (rawInt 0) s h1) (λ f s'=>?_) λ _ _ x=>x
  rintro ⟨r,rfl,rfl,rfl⟩
  exact ⟨_,rfl,"set_iterator",_,⟨_,Heap.get?_push_size _ rfl,rfl⟩,cJ.lookup,h s.heap.objs.size _ s.drawn _ (Nat.le_refl _) (λ b o e=>Heap.get?_push_of_some _ e) ⟨Heap.get?_push_of_some _ h1,_,Heap.get?_push_size _ rfl,Or.inl (show _∧_ from ⟨hb,⟨0,0,rfl⟩,rfl⟩)⟩⟩
 ·have hb':w.params.followText "set-order"=false:=by simpa using hb
  rw[hb']
  by_cases hd:(!t.plain&&decide (es.size>1))=true
  ·rw[hd,if_pos (by simp)]
   refine wpAny_bind (iW _ _ _ _ (by simp) λ pl d hp=>?_)
   have hl:pl.length=es.size:=by rw[hp.length_eq,List.length_range]
   refine wpAny_bind (wpAny_newTuple ?_ (by have:=bL;rw[List.length_map];exact Po hn hl this))
   have h2:=Heap.get?_push_of_some (cB (pl.map λ j:Nat=>rawInt j).toArray) h1
   refine wpAny_mono (fin (.ref s.heap.objs.size) {s with heap:=s.heap.push (cB (pl.map λ j:Nat=>rawInt j).toArray),drawn:=d} h2) (λ f s'=>?_) λ _ _ x=>x
   rintro ⟨r,rfl,rfl,rfl⟩
   refine ⟨_,rfl,"set_iterator",_,⟨_,Heap.get?_push_size _ rfl,rfl⟩,cJ.lookup,h _ _ d (pl.map λ j=>(es[j]?.map (·.2)).getD .none) (by show s.heap.objs.size≤(s.heap.push _).objs.size;rw[Heap.size_push];exact Vh) (λ b o e=>Heap.get?_push_of_some _ (Heap.get?_push_of_some _ e))
    ⟨Heap.get?_push_of_some _ h2,_,Heap.get?_push_size _ rfl,Or.inr (.inr ⟨hb',s.heap.objs.size,pl,rfl,Heap.get?_push_of_some _ (Heap.get?_push_size _ rfl),hp,by simp,λ i j hij=>?_⟩)⟩⟩
   have hj:j<es.size:=List.mem_range.mp (hp.mem_iff.mp (List.mem_of_getElem? hij))
   exact ⟨es[j],Array.getElem?_eq_getElem hj,by rw[List.getElem?_map,hij];simp[hj]⟩
  ·have hd':(!t.plain&&decide (es.size>1))=false:=by simpa using hd
   rw[hd',if_neg (by simp)]
   refine wpAny_bind (wpAny_pure ?_)
   refine wpAny_mono (fin (rawInt 0) s h1) (λ f s'=>?_) λ _ _ x=>x
   rintro ⟨r,rfl,rfl,rfl⟩
   exact ⟨_,rfl,"set_iterator",_,⟨_,Heap.get?_push_size _ rfl,rfl⟩,cJ.lookup,h s.heap.objs.size _ s.drawn _ (Nat.le_refl _) (λ b o e=>Heap.get?_push_of_some _ e) ⟨Heap.get?_push_of_some _ h1,_,Heap.get?_push_size _ rfl,Or.inr (.inl ⟨hb',hd',⟨0,rfl,Bh ok.asc⟩,rfl⟩)⟩⟩
end
open SetTable
section
variable {prog:Program} {w:World} {A:Around} {E:Value→Shared→Prop} {s:Shared} {S I:Addr} {es:Array (Int×Value)} {ep:Nat} {t:SetTable} {ys:List Value} {i:Nat} {v:Value}
theorem vO (h1:s.heap.get? S=some (cC es ep t)) (ok:cQ t es.size) (hb:w.params.followText "set-order"=true) {Q:Array (Int×Value)→Shared→Prop} (h:Q (pickOrder (w.params.setOrder S ep) es) s):wpAny (model prog w) A (setWalk S) Q E s:=by
 unfold setWalk
 refine wpAny_bind (wpAny_setState_of h1 rfl ok.fits ?_)
 dsimp only
 refine wpAny_bind (dT ?_)
 rw[hb,if_pos rfl]
 exact wpAny_bind (wpAny_askSetting (wpAny_pure h))
theorem mD (h1:s.heap.get? S=some (cC es ep t)) (ok:cQ t es.size) (hb:w.params.followText "set-order"=true) (slot:Nat) {Q:Option (Value×Nat)→Shared→Prop} (h:Q (((pickOrder (w.params.setOrder S ep) es).toList.map (·.2))[i]?.map (·,slot)) s):wpAny (model prog w) A (setNext S slot i ep) Q E s:=by
 unfold setNext
 refine wpAny_bind (wpAny_setState_of h1 rfl ok.fits ?_)
 dsimp only
 refine wpAny_bind (dT ?_)
 rw[hb,if_pos rfl,if_neg (by simp)]
 refine wpAny_bind (vO h1 ok hb (wpAny_pure ?_))
 rw[List.getElem?_map,Array.getElem?_toList,Option.map_map] at h
 exact h
theorem kP (h1:s.heap.get? S=some (cC es ep t)) (ok:cQ t es.size) (hb:w.params.followText "set-order"=false) (hd:(!t.plain&&decide (es.size>1))=false) (hl:t.led=true) {slot:Nat} (hs:below t.place slot=i) {Q:Option (Value×Nat)→Shared→Prop}
  (some':∀j e,es[i]? =some e→t.place[i]? =some j→Q (some (e.2,j+1)) s) (none':es[i]? =none→Q none s):wpAny (model prog w) A (setNext S slot i ep) Q E s:=by
 unfold setNext
 refine wpAny_bind (wpAny_setState_of h1 rfl ok.fits ?_)
 dsimp only
 refine wpAny_bind (dT ?_)
 rw[hb,if_neg (by simp)]
 show wpAny _ _ (if (!t.plain&&decide (es.size>1))=true then _ else _) _ _ _
 rw[hd,if_neg (by simp)]
 refine wpAny_bind ?_
 show wpAny _ _ (if (!t.led&& !es.isEmpty)=true then _ else _) _ _ _
 rw[hl,if_neg (by simp)]
 refine wpAny_pure ?_
 rw[hs]
 by_cases hi:i<es.size
 ·have hi2:i<t.place.size:=by rw[ok.sz];exact hi
  rw[Array.getElem?_eq_getElem hi,Array.getElem?_eq_getElem hi2]
  exact wpAny_pure (some' _ _ (Array.getElem?_eq_getElem hi) (Array.getElem?_eq_getElem hi2))
 ·rw[Array.getElem?_eq_none (by exact Nat.le_of_not_lt ‹_›)]
  exact wpAny_pure (none' (Array.getElem?_eq_none (by exact Nat.le_of_not_lt ‹_›)))
theorem Fy {first:Value} {j n m:Nat} {its:Array Value}:Ca first j S n m≠cB its:=λ e=>by have:=congrArg Obj.cls e;simp at this
theorem zV.keep {h h':Heap} {first:Value} (m:zV w h S es ep t i first ys) (e:Ev h h'):zV w h' S es ep t i first ys:=by
 rcases m with m | m | ⟨hb,T,pl,h1,h2,r⟩
 ·exact .inl m
 ·exact .inr (.inl m)
 ·exact .inr (.inr ⟨hb,T,pl,h1,e _ _ h2,r⟩)
theorem Vy {h h':Heap} {first:Value} {n:Nat} (h2:h.get? I=some (Ca first i S n ep)) (sb:Heap.SameBut I h h'):Ev h h':=λ a its ha=>by
 rw[sb.2 a]
 ·exact ha
 ·rintro rfl
  rw[h2] at ha
  exact Fy (Option.some.inj ha)
theorem Eh (q:zY w s.heap I S es ep t ys i) (ok:cQ t es.size) (hl:t.led=eT w) (hIS:S≠I) (hx:ys[i]? =some v) {Q:Option Value→Shared→Prop}
  (h:∀h',Heap.SameBut I s.heap h'→zY w h' I S es ep t ys (i+1)→Q (some v) {s with heap:=h'}):
  wpAny (model prog w) A (pyNext (.ref I)) Q E s:=by
 obtain ⟨h1,first,h2,hm⟩:=q
 have hT:s.TypeIs (.ref I) "set_iterator":=⟨_,h2,rfl⟩
 have hi:i<es.size:=by rw[←hm.perm];exact (List.getElem?_eq_some_iff.mp hx).1
 unfold pyNext
 refine wpAny_bind (wpAny_attempt (wpAny_callSpecial?_slot (name:=Str.ofString "__next__") hT cJ
  (wpAny_call_entry cJ hT iX ?_ (jQ _))))
 unfold Builtin.«set_iterator.__next__»
 refine wpAny_bind (wpAny_pure ?_)
 dsimp only
 refine wpAny_bind (wpAny_fieldsOf h2 rfl ?_)
 have st:∀{s1:Shared} {Q1:(Array (Int×Value)×Nat×SetTable)→Shared→Prop} {E1:Value→Shared→Prop} {A1:Around},s1.heap.get? S=some (cC es ep t)→Q1 (es,ep,t) s1→wpAny (model prog w) A1 (setState S) Q1 E1 s1:=λ hs hq=>wpAny_setState_of hs rfl ok.fits hq
 show wpAny _ _ (setEntries S>>=_) _ _ s
 refine wpAny_bind ?_
 refine wpAny_bind (st h1 (wpAny_pure ?_))
 dsimp only
 rw[if_neg (by simp)]
 rcases hm with ⟨hb,⟨slot,u,rfl⟩,e⟩ | ⟨hb,hd,⟨slot,rfl,hs⟩,e⟩ | ⟨hb,T,pl,rfl,hT2,hp,hlen,hf⟩
 ·dsimp only
  refine wpAny_bind (mD (i:=i) h1 ok hb slot.toNat ?_)
  rw[←e,hx]
  dsimp only[Option.map]
  refine wpAny_bind (wpAny_setField_rec h2 (by simp) λ h3 e3 b3=>?_)
  refine wpAny_bind (wpAny_setField_rec e3 (by simp) λ h4 e4 b4=>?_)
  exact wpAny_pure ⟨_,rfl,wpAny_pure (h h4 (b3.trans b4) ⟨by rw[(b3.trans b4).2 S hIS];exact h1,_,e4,Or.inl ⟨hb,⟨_,_,rfl⟩,e⟩⟩)⟩
 ·dsimp only[rawInt]
  have hl':t.led=true:=by rw[hl,eT,hb];rfl
  rw[e,List.getElem?_map,Array.getElem?_toList] at hx
  refine wpAny_bind (kP (i:=i) h1 ok hb hd hl' hs (λ j e' he hj=>?_) λ hn=>?_)
  ·rw[he] at hx
   dsimp only
   cases hx
   refine wpAny_bind (wpAny_setField_rec h2 (by simp) λ h3 e3 b3=>?_)
   refine wpAny_bind (wpAny_setField_rec e3 (by simp) λ h4 e4 b4=>?_)
   refine wpAny_pure ⟨_,rfl,wpAny_pure (h h4 (b3.trans b4) ⟨by rw[(b3.trans b4).2 S hIS];exact h1,_,e4,Or.inr (.inl ⟨hb,hd,⟨j+1,rfl,?_⟩,e⟩)⟩)⟩
   obtain ⟨hi2,rfl⟩:=Array.getElem?_eq_some_iff.mp hj
   exact zD ok.asc hi2
  ·rw[hn] at hx;cases hx
 ·have hi2:i<pl.length:=by rw[hp.length_eq,List.length_range];exact hi
  obtain ⟨e',f1,f2⟩:=hf i pl[i] (List.getElem?_eq_getElem hi2)
  rw[hx] at f2
  cases f2
  dsimp only
  refine wpAny_bind (wpAny_seqItems hT2 rfl ?_)
  dsimp only
  have gi:(pl.map λ j:Nat=>rawInt j).toArray[(i:Int).toNat]? =some (rawInt pl[i]):=by simp[hi2]
  rw[gi]
  dsimp only[rawInt]
  refine wpAny_bind ?_
  ·unfold setNextDrawn
   refine wpAny_bind (st h1 ?_)
   dsimp only
   rw[if_neg (by simp),show (pl[i]:Int).toNat=pl[i] from rfl,f1]
   refine wpAny_pure ?_
   refine wpAny_bind (wpAny_setField_rec h2 (by simp) λ h3 e3 b3=>?_)
   have ev:=Vy h2 b3
   exact wpAny_pure ⟨_,rfl,wpAny_pure (h h3 b3 ⟨by rw[b3.2 S hIS];exact h1,_,e3,Or.inr (.inr ⟨hb,T,pl,rfl,ev _ _ hT2,hp,hlen,hf⟩)⟩)⟩
end
open SetTable
section
variable {prog:Program} {w:World} {A:Around} {E:Value→Shared→Prop} {s:Shared} {S I:Addr} {es:Array (Int×Value)} {ep:Nat} {t:SetTable} {ys:List Value} {i:Nat} {v:Value}
theorem kY {α:Type} {M:Model} {A1:Around} {Q1:α→Shared→Prop} {E1:Value→Shared→Prop} (hh:A1.handled=none) (h:∀x h',(∀b o,s.heap.get? b=some o→h'.get? b=some o)→Shared.TypeIs {s with heap:=h'} x "StopIteration"→E1 x {s with heap:=h'}):
  wpAny M A1 (newExc (.type "StopIteration") []>>=raiseNew) Q1 E1 s:=by
 refine wpAny_bind ?_
 simp only[newExc,newTuple]
 refine wpAny_bind (wpAny_newObj_type ?_ (by size_fits))
 refine wpAny_bind (m:=firstArgMember _ _) (wpAny_of_eq (a:=Value.none) (by first | rfl | (simp only[firstArgMember];rfl)) ?_)
 refine wpAny_newObj_type ?_ (by size_fits)
 simp only[raiseNew]
 refine wpAny_bind (wpAny_handled ?_)
 rw[hh]
 refine wpAny_bind (wpAny_pure (wpAny_throw ?_))
 exact h _ _ (λ b o e=>Heap.get?_push_of_some _ (Heap.get?_push_of_some _ e)) ⟨_,Heap.get?_push_size _ rfl,rfl⟩
theorem Hg (hh:A.handled=none) (q:zY w s.heap I S es ep t ys es.size) (ok:cQ t es.size) (hl:t.led=eT w) {Q:Option Value→Shared→Prop}
  (h:∀h',Heap.ExtBut I s.heap h'→Q none {s with heap:=h'}):
  wpAny (model prog w) A (pyNext (.ref I)) Q E s:=by
 obtain ⟨h1,first,h2,hm⟩:=q
 have hT:s.TypeIs (.ref I) "set_iterator":=⟨_,h2,rfl⟩
 unfold pyNext
 refine wpAny_bind (wpAny_attempt (wpAny_callSpecial?_slot (name:=Str.ofString "__next__") hT cJ
  (wpAny_call_entry cJ hT iX ?_ (jQ _))))
 unfold Builtin.«set_iterator.__next__»
 refine wpAny_bind (wpAny_pure ?_)
 dsimp only
 refine wpAny_bind (wpAny_fieldsOf h2 rfl ?_)
 show wpAny _ _ (setEntries S>>=_) _ _ s
 refine wpAny_bind ?_
 refine wpAny_bind (wpAny_setState_of h1 rfl ok.fits (wpAny_pure ?_))
 dsimp only
 rw[if_neg (by simp)]
 rcases hm with ⟨hb,⟨slot,u,rfl⟩,e⟩ | ⟨hb,hd,⟨slot,rfl,hs⟩,e⟩ | ⟨hb,T,pl,rfl,hT2,hp,hlen,hf⟩
 ·dsimp only
  refine wpAny_bind (mD (i:=es.size) h1 ok hb slot.toNat ?_)
  rw[List.getElem?_eq_none (by rw[List.length_map,(nG _ es).length_eq,Array.length_toList];exact Nat.le_refl _)]
  dsimp only[Option.map]
  refine wpAny_bind (wpAny_setField h2 rfl (by simp) ?_)
  refine kY hh λ x h' k hx=>?_
  refine wpAny_bind (wpAny_isInstance (T:="StopIteration") (b:=true) hx isSubtype_stop ?_)
  exact wpAny_pure (h _ λ b o hb e=>k b o ((Heap.SameBut.update ..).extBut b o hb e))
 ·dsimp only[rawInt]
  have hl':t.led=true:=by rw[hl,eT,hb];rfl
  refine wpAny_bind (kP (i:=es.size) h1 ok hb hd hl' hs (λ j e' he hj=>?_) λ hn=>?_)
  ·rw[Array.getElem?_eq_none (Nat.le_refl _)] at he;cases he
  dsimp only
  refine wpAny_bind (wpAny_setField h2 rfl (by simp) ?_)
  refine kY hh λ x h' k hx=>?_
  refine wpAny_bind (wpAny_isInstance (T:="StopIteration") (b:=true) hx isSubtype_stop ?_)
  exact wpAny_pure (h _ λ b o hb e=>k b o ((Heap.SameBut.update ..).extBut b o hb e))
 ·have hl2:pl.length=es.size:=by rw[hp.length_eq,List.length_range]
  dsimp only
  refine wpAny_bind (wpAny_seqItems hT2 rfl ?_)
  dsimp only
  rw[show (pl.map λ j:Nat=>rawInt j).toArray[(es.size:Int).toNat]? =none from Array.getElem?_eq_none (by rw[List.size_toArray,List.length_map,hl2];exact Nat.le_refl _)]
  dsimp only
  refine wpAny_bind (wpAny_setField_rec h2 (by simp) λ h3 e3 b3=>?_)
  refine wpAny_bind (wpAny_setField_rec e3 (by simp) λ h4 e4 b4=>?_)
  refine kY hh λ x h' k hx=>?_
  refine wpAny_bind (wpAny_isInstance (T:="StopIteration") (b:=true) hx isSubtype_stop ?_)
  exact wpAny_pure (h _ λ b o hb e=>k b o ((b3.trans b4).extBut b o hb e))
end
open SetTable
section
variable {prog:Program} {w:World} {A:Around} {E:Value→Shared→Prop} {s:Shared} {S I D:Addr} {es:Array (Int×Value)} {ep:Nat} {t:SetTable} {ys:List Value} {i:Nat} {v:Value}
theorem zY.keep {h h':Heap} (q:zY w h I S es ep t ys i) (k:∀b o,b=S∨b=I→h.get? b=some o→h'.get? b=some o) (e:Ev h h'):zY w h' I S es ep t ys i:=by
 obtain ⟨h1,f,h2,h3⟩:=q
 exact ⟨k _ _ (.inl rfl) h1,f,k _ _ (.inr rfl) h2,h3.keep e⟩
theorem wI {h h':Heap} {a:Array Value} {c:Nat} (h1:h.get? D=some (listOf a c)) (k:∀b o,b≠D→h.get? b=some o→h'.get? b=some o):Ev h h':=λ b its hb=>by
 refine k b _ ?_ hb
 rintro rfl
 rw[h1] at hb
 exact absurd (congrArg Obj.cls (Option.some.inj hb)) (by simp)
theorem Gf {R:Result→Shared→Prop} (hh:A.in1.handled=none) (hDI:D≠I) (hDS:D≠S) (hSI:S≠I) (ok:cQ t es.size) (hl:t.led=eT w) (hn:es.size≤200) (hlen:ys.length=es.size) (res:Value):
  ∀(k i:Nat) (s:Shared) (acc:Array Value) (c:Nat),es.size-i=k→i≤es.size→zY w s.heap I S es ep t ys i→s.heap.get? D=some (listOf acc c)→acc.toList=ys.take i→
   (∀h' acc' c',(∀b o,b≠D→b≠I→s.heap.get? b=some o→h'.get? b=some o)→h'.get? D=some (listOf acc' c')→acc'.toList=ys→R (.ok (.ret res)) {s with heap:=h'})→
   codeAny (model prog w) A (.builtin "list.extend.loop" ⟨[.ref D,.ref I,res],[]⟩) R s:=by
 intro k
 induction k with
 | zero=>
  intro i s acc c hk hi hst hD hacc hR
  have hin:i=es.size:=by exact Jr hk hi
  subst hin
  refine codeAny_builtin PySem.F.entry_extend_loop ?_
  rw[Around.under_plainId PySem.F.plain_extend_loop _]
  show wpAny _ A.in1 (pyNext (.ref I)>>=_) _ _ s
  refine wpAny_bind (Hg hh hst ok hl λ h' hm=>?_)
  exact wpAny_pure (hR h' acc c (λ b o _ hb e=>hm b o hb e) (hm D _ hDI hD) (by rw[hacc,←hlen,List.take_length]))
 | succ k ih=>
  intro i s acc c hk hi hst hD hacc hR
  have hlt:i<ys.length:=by exact Oe hlen hk
  refine codeAny_builtin PySem.F.entry_extend_loop ?_
  rw[Around.under_plainId PySem.F.plain_extend_loop _]
  show wpAny _ A.in1 (pyNext (.ref I)>>=_) _ _ s
  refine wpAny_bind (Eh hst ok hl hSI (List.getElem?_eq_getElem hlt) λ h1 sb1 hst1=>?_)
  have hD1:h1.get? D=some (listOf acc c):=by rw[sb1.2 D hDI];exact hD
  have hs:acc.size=i:=by rw[←Array.length_toList,hacc,List.length_take];exact Tv hlt
  show wpAny _ A.in1 (updateSeq D (·.push ys[i])>>=_) _ _ _
  refine wpAny_bind ?_
  refine wpAny_updateSeq hD1 rfl (wpAny_pure ⟨plainId_quiet PySem.F.plain_extend_loop _,?_⟩) (by have:=bL;exact Nr hn hlen hlt hs this) (by have:=bL;show (acc.push _).size≤sizeLine+1;rw[Array.size_push];exact Nt hn hlen hlt hs this)
  have oth:∀b o,b≠D→h1.get? b=some o→(h1.update D (Obj.mapSeq (·.push ys[i]))).get? b=some o:=λ b o hb e=>(Heap.get?_update_other _ _ (Ne.symm hb)).trans e
  refine ih (i+1) _ (acc.push ys[i]) _ (by exact I8 hk) (by exact Nat.lt_of_lt_of_eq ‹_› ‹_›) (hst1.keep (λ b o hb e=>oth b o (by rcases hb with rfl | rfl;exact hDS.symm;exact hDI.symm) e) (wI hD1 oth)) (Heap.get?_update_self _ hD1 rfl) ?_ λ h2 acc' c' k2 hD2 hacc2=>?_
  ·rw[Array.toList_push,hacc,List.take_succ,List.getElem?_eq_getElem hlt];rfl
  ·exact hR h2 acc' c' (λ b o hb hI e=>k2 b o hb hI (oth b o hb (by rw[sb1.2 b hI];exact e))) hD2 hacc2
theorem F7 {A:Around} {Q:Bool→Shared→Prop} (hT:s.TypeIs (.ref S) "set") (h:Q false s):wpAny (model prog w) A (Builtin.List.listLengthHint (.ref S)) Q E s:=by
 unfold Builtin.List.listLengthHint
 refine wpAny_bind (wpAny_specialOf hT PySem.F.slot_set_len.lookup ?_)
 generalize hid:("set.__len__":String)=id0
 wp_delta
 rw[show splitId id0=some ("set","__len__") from by subst hid;decide+kernel]
 subst hid
 refine wpAny_bind (wpAny_isInstance (T:="set") (b:=true) hT (by rw[isSubtype_type];kernel_rfl) ?_)
 refine wpAny_ite_split (λ hab=>absurd hab (by decide)) (λ _=>?_)
 refine wpAny_ite_split (λ _=>?_) (λ hab=>absurd (by decide+kernel) hab)
 refine wpAny_bind (wpAny_typeOf hT ?_)
 exact wpAny_pure h
theorem xJ {R:List Value→Shared→Prop} (hh:A.handled=none) (h1:s.heap.get? S=some (cC es ep t)) (ok:cQ t es.size) (hl:t.led=eT w) (hn:es.size≤200)
  (h:∀h' d ys,(∀b o,s.heap.get? b=some o→h'.get? b=some o)→ys.length=es.size→(∀v,v∈ys↔v∈es.toList.map (·.2))→R ys {s with heap:=h',drawn:=d}):
  wpAny (model prog w) A (collect (.ref S)) R E s:=by
 have hlt:S<s.heap.objs.size:=Heap.lt_size h1
 unfold collect
 refine wpAny_bind (wpAny_runValue (codeAny_builtin entry_proto_collect' ?_))
 rw[Around.under_plainId PySem.F.plain_proto_collect _]
 show wpAny _ A.in1 (newList []>>=λ l=>again (.builtin "list.__iadd__" ⟨[l,.ref S],[]⟩)) _ _ s
 refine wpAny_bind (wpAny_newObj_type ?_)
 refine wpAny_pure ⟨plainId_quiet PySem.F.plain_list_iadd _,codeAny_builtin entry_list_iadd' ?_⟩
 rw[Around.under_plainId PySem.F.plain_list_iadd _]
 have hD:(s.heap.push (listOf (([]:List Value).toArray) 0)).get? s.heap.objs.size=some (listOf #[] 0):=Heap.get?_push_size _ rfl
 have h1':=Heap.get?_push_of_some (listOf (([]:List Value).toArray) 0) h1
 show wpAny _ A.in1 (Builtin.List.listExtendWith (.ref s.heap.objs.size) (.ref S) (.ref s.heap.objs.size)) _ _ _
 have key:wpAny (model prog w) A.in1 (Builtin.List.listExtendWith (.ref s.heap.objs.size) (.ref S) (.ref s.heap.objs.size)) (λ f s'=>match f with | .done f=>False | .again c'=>c'.quiet=true∧codeAny (model prog w) A c' (λ q s''=>∃h' d acc' c',q= .ok (.ret (.ref s.heap.objs.size))∧s''={s with heap:=h',drawn:=d}∧(∀b o,s.heap.get? b=some o→h'.get? b=some o)∧h'.get? s.heap.objs.size=some (listOf acc' c')∧acc'.toList.length=es.size∧∀v,v∈acc'.toList↔v∈es.toList.map (·.2)) s') (λ _ _=>False) {s with heap:=s.heap.push (listOf (([]:List Value).toArray) 0)}:=by
  unfold Builtin.List.listExtendWith
  refine wpAny_bind (wpAny_typeOf (T:="set") ⟨_,h1',rfl⟩ ?_)
  have hs:Builtin.List.listSameRef (.ref s.heap.objs.size) (.ref S)=false:=by
   have:(s.heap.objs.size==S)=false:=by rw[beq_eq_false_iff_ne];exact Nat.ne_of_gt hlt
   exact this
  rw[hs,if_neg (by decide)]
  refine wpAny_bind (Aq h1' ok hn λ I h2 d ys hI k2 hst=>?_)
  refine wpAny_bind (wpAny_holding (F7 ⟨_,k2 _ _ h1',rfl⟩ ?_))
  rw[if_pos (by decide)]
  have hlen:ys.length=es.size:=by obtain ⟨_,f,_,hm⟩:=hst;exact hm.perm
  have hall:∀v,v∈ys↔v∈es.toList.map (·.2):=by obtain ⟨_,f,_,hm⟩:=hst;exact hm.all
  have hI':s.heap.objs.size<I:=by
   have:(s.heap.push (listOf (([]:List Value).toArray) 0)).objs.size≤I:=hI
   rw[Heap.size_push] at this;exact this
  have hDI:s.heap.objs.size≠I:=Nat.ne_of_lt hI'
  have hDS:s.heap.objs.size≠S:=Nat.ne_of_gt hlt
  have hD2:=k2 _ _ hD
  refine wpAny_bind (wpAny_rule ?_)
  refine wpAny_bind ?_
  show wpAny _ _ (updateSeq s.heap.objs.size (·.push .none)>>=λ _=>updateSeq s.heap.objs.size (·.pop)) _ _ _
  refine wpAny_bind (wpAny_updateSeq hD2 rfl ?_)
  have hD3:=Heap.get?_update_self (Obj.mapSeq (·.push Value.none)) hD2 rfl
  refine wpAny_updateSeq (hz:=by seq_fits) hD3 rfl ?_
  have hD4:=Heap.get?_update_self (Obj.mapSeq (·.pop)) hD3 rfl
  have oth:∀b o,b≠s.heap.objs.size→h2.get? b=some o→((h2.update s.heap.objs.size (Obj.mapSeq (·.push Value.none))).update s.heap.objs.size (Obj.mapSeq (·.pop))).get? b=some o:=λ b o hb e=>
   (Heap.get?_update_other _ _ (Ne.symm hb)).trans ((Heap.get?_update_other _ _ (Ne.symm hb)).trans e)
  have hst2:=hst.keep (λ b o hb e=>oth b o (by rcases hb with rfl | rfl;exact hDS.symm;exact hDI.symm) e) (wI hD2 oth)
  refine wpAny_pure ⟨plainId_quiet PySem.F.plain_extend_loop _,Gf hh (D:=s.heap.objs.size) hDI hDS (Nat.ne_of_lt (Nat.lt_trans hlt hI')) ok hl hn hlen _ (es.size-0) 0 _ #[] _ rfl (Nat.zero_le _) hst2 hD4 rfl λ h3 acc' c' k3 hD3 hacc=>?_⟩
  refine ⟨h3,d,acc',c',rfl,rfl,λ b o e=>?_,hD3,by rw[hacc];exact hlen,by rw[hacc];exact hall⟩
  have hb:=Heap.lt_size e
  exact k3 b o (Nat.ne_of_lt hb) (Nat.ne_of_lt (Nat.lt_trans hb hI')) (oth b o (Nat.ne_of_lt hb) (k2 b o (Heap.get?_push_of_some _ e)))
 refine wpAny_mono key (λ f s' x=>?_) λ _ _ x=>x.elim
 cases f with
 | done f=>exact x.elim
 | again c'=>
  refine ⟨x.1,codeAny_mono x.2 λ q s2 y=>?_⟩
  obtain ⟨h',d,acc',c',rfl,rfl,hk,hD',hl',ha⟩:=y
  show wpAny _ A (load s.heap.objs.size>>=_) _ _ _
  refine wpAny_bind (wpAny_load hD' ?_)
  exact wpAny_pure (h h' d acc'.toList hk hl' ha)
end
noncomputable def eL {α:Type} (n:Nat) (P:α→Prop):KasT α→Prop
 | .ret a=>P a
 | .ask i j k=>i<n∧j<n∧∀b,eL n P (k b)
theorem eL.bind {α β:Type} {n:Nat} {P:α→Prop} {Q:β→Prop} {f:α→KasT β} (hf:∀a,P a→eL n Q (f a)):∀{t:KasT α},eL n P t→eL n Q (t.bind f)
 | .ret a,h=>hf a h
 | .ask i j k,h=>⟨h.1,h.2.1,λ b=>eL.bind hf (h.2.2 b)⟩
noncomputable def eK (n:Nat) (p:Array Nat):Prop:=p.toList.Perm (List.range n)
theorem eK.lt {n:Nat} {p:Array Nat} (h:eK n p) (hn:0<n) (i:Nat):p.getD i 0<n:=by
 unfold Array.getD
 split
 ·rename_i hi
  exact List.mem_range.mp (h.mem_iff.mp (by simp))
 ·exact hn
theorem eK.rev {n:Nat} {p:Array Nat} (h:eK n p) (i j:Nat):eK n (kas_rev p i j):=
 (Array.perm_iff_toList_perm.mp (mirror_perm p i j _)).trans h
section
variable {n:Nat} (hn:0<n)
include hn
theorem rK {p:Array Nat} (h:eK n p):∀f k,eL n (λ _:Nat=>True) (kas_asc p f k)
 | 0,k=>trivial
 | f+1,k=>⟨h.lt hn _,h.lt hn _,λ b=>by
   cases b
   ·exact rK h f (k+1)
   ·exact trivial⟩
theorem kA:∀f p k q,eK n p→eL n (λ r:Array Nat×Nat×Nat=>eK n r.1) (kas_desc f p k q)
 | 0,p,k,q,h=>h
 | f+1,p,k,q,h=>⟨h.lt hn _,h.lt hn _,λ b=>by
   cases b
   ·exact ⟨h.lt hn _,h.lt hn _,λ d=>by
     cases d
     ·exact kA f p _ _ h
     ·exact h⟩
   ·show eL n _ (if q>0 then _ else _)
    split
    ·exact kA f _ _ _ (h.rev _ _)
    ·exact kA f _ _ _ h⟩
theorem rJ {p:Array Nat} (h:eK n p) (k r:Nat):eL n (λ r:Nat×Array Nat=>eK n r.2) (kas_tail3 k r p):=
 eL.bind (Q:=λ r:Nat×Array Nat=>eK n r.2) (f:=λ m=>.ret (m,kas_rev p 0 k)) (λ _ _=>h.rev _ _) (rK hn (h.rev _ _) _ _)
theorem kR {p:Array Nat} (h:eK n p) (k r:Nat):eL n (λ r:Nat×Array Nat=>eK n r.2) (kas_descPart k r p):=by
 refine eL.bind (λ a ha=>?_) (kA hn _ p _ _ h)
 split
 ·exact rJ hn (eK.rev ha _ _) _ _
 ·exact rJ hn ha _ _
theorem A9 {p:Array Nat} (h:eK n p) (r:Nat):eL n (λ r:Nat×Array Nat=>eK n r.2) (kas_count r p):=by
 refine eL.bind (λ a _=>?_) (rK hn h _ _)
 split
 ·exact h
 ·split
  ·exact ⟨h.lt hn _,h.lt hn _,λ b=>by
    cases b
    ·exact kR hn (h.rev _ _) _ _
    ·exact h⟩
  ·exact kR hn h _ _
theorem lL {p:Array Nat} (h:eK n p) (k:Nat):∀f l r,eL n (λ _:Nat=>True) (kas_place p k f l r)
 | 0,l,r=>trivial
 | f+1,l,r=>by
  unfold kas_place
  split
  ·exact trivial
  ·exact ⟨h.lt hn _,h.lt hn _,λ b=>by
    cases b
    ·exact lL h k f _ _
    ·exact lL h k f _ _⟩
theorem yK:∀f p k,eK n p→eL n (eK n) (kas_bin f p k)
 | 0,p,k,h=>h
 | f+1,p,k,h=>eL.bind (λ l _=>yK f _ _ ((Array.perm_iff_toList_perm.mp (bubble_perm p k _)).trans h)) (lL hn h k _ _ _)
theorem Dh:eL n (eK n) (kas_sort n):=by
 refine eL.bind (λ r hr=>?_) (A9 hn (p:=List.toArray (List.range n)) (.refl _) n)
 split
 ·exact yK hn _ _ _ hr
 ·exact hr
end
theorem Cd {α:Type} {n:Nat} {P:α→Prop} {cmp:Nat→Nat→(Bool→Shared→Prop)→Shared→Prop} {s:Shared} (hc:∀i j C,i<n→j<n→(∀b,C b s)→cmp i j C s) {Q:α→Shared→Prop} (hQ:∀a,P a→Q a s):
  ∀{t:KasT α},eL n P t→t.kasWp cmp Q s
 | .ret a,h=>hQ a h
 | .ask i j k,h=>hc i j _ h.1 h.2.1 λ b=>Cd hc hQ (h.2.2 b)
noncomputable def uB (k:cH):Prop:=∃(op:Str) (ns:List Int),k=bZ.s op::ns.map bZ.i
section
variable {prog:Program} {w:World} {A:Around} {E:Value→Shared→Prop} {s:Shared}
theorem yB {C:Bool→Shared→Prop} {fin:Bool} (hC:∀b,C b s):∀(ns ms:List Int) (vs us:List Value) (i:Nat),IntsAre vs ns→IntsAre us ms→KatLex prog w A true fin C (vs.zip us) (i+1) s
 | _,_,_,_,i,.nil,_=>kat_nil (hC _)
 | _,_,_,_,i,.cons _ _ _,.nil=>kat_nil (hC _)
 | _,_,_,_,i,.cons n t h1,.cons m u h2=>kat_cons (wpAny_eqBool_int (kat_go (λ _=>kat_yes (yB hC _ _ _ _ _ h1 h2)) λ _=>kat_no (by
   have e:(true&&(i+1==0))=false:=by simp
   rw[e]
   exact kat_one _ _ (P.lt_int (show W.BoolBack C (.bool _) s from hC _)))))
theorem uB.vals {h:Heap} {k:cH} {v:Value} (hk:uB k) (q:bH h (cH.av k) v):∃a op t ns vs,v= .ref a∧h.get? a=some (cB (Array.mk (.str op t::vs)))∧IntsAre vs ns:=by
 obtain ⟨op,ns,rfl⟩:=hk
 have q':bH h (.tup ((bZ.s op::ns.map bZ.i).map bZ.av)) v:=q
 rw[dN] at q'
 obtain ⟨a,items,rfl,h1,_,h2⟩:=q'
 obtain ⟨x,vr,e,h3,h4⟩:=h2.cons_inv
 rw[show (bZ.s op).av=AV.str op from rfl,VIs_str] at h3
 obtain ⟨t,rfl⟩:=h3
 have h5:aO h (aS ns) vr:=by
  have:(ns.map bZ.i).map bZ.av=aS ns:=by rw[List.map_map];rfl
  rw[←this];exact h4
 exact ⟨a,op,t,ns,vr,rfl,by rw[h1,←e],gN h5⟩
theorem H9 {k k':cH} {x y:Value} (h1:uB k) (h2:uB k') (q1:bH s.heap (cH.av k) x) (q2:bH s.heap (cH.av k') y) {C:Bool→Shared→Prop} (hC:∀b,C b s):wpAny (model prog w) A (keyLt' (tuples' true) x y) C E s:=by
 obtain ⟨a,op,t,ns,vs,rfl,e1,i1⟩:=h1.vals q1
 obtain ⟨b,op',t',ms,us,rfl,e2,i2⟩:=h2.vals q2
 refine kat_lt e1 rfl e2 rfl ?_
 show KatLex prog w A true _ C ((Value.str op t,Value.str op' t')::vs.zip us) 0 s
 exact kat_cons (wpAny_eqBool_str (kat_go (λ _=>kat_yes (yB hC _ _ _ _ _ i1 i2)) λ _=>kat_no (oneLt_str (hC _))))
theorem uS:∀{vs:List Value},(∀v∈vs,∃k,uB k∧bH s.heap (cH.av k) v)→∃fs,KatTups s.heap vs fs∧fs.length=vs.length∧∀f∈fs,∃op t,f=Value.str op t
 | [],_=>⟨[],.nil,rfl,nn⟩
 | v::r,H=>by
  obtain ⟨k,h1,h2⟩:=H v List.mem_cons_self
  obtain ⟨fs,h3,h4,h5⟩:=uS (vs:=r) λ x hx=>H x (List.mem_cons_of_mem _ hx)
  obtain ⟨a,op,t,ns,vs,rfl,e1,i1⟩:=h1.vals h2
  refine ⟨.str op t::fs,KatTups.cons e1 rfl rfl rfl h3,by rw[List.length_cons,List.length_cons,h4],λ f hf=>?_⟩
  rcases List.mem_cons.mp hf with rfl | hf
  ·exact ⟨op,t,rfl⟩
  ·exact h5 f hf
theorem Cw {vs:List Value} (hn:0<vs.length) (H:∀v∈vs,∃k,uB k∧bH s.heap (cH.av k) v) {Q:Array Nat→Shared→Prop} (hQ:∀p,eK vs.length p→Q p s):
  wpAny (model prog w) A (keyKind' vs.toArray) (λ κ s'=>(kas_sort vs.length).kasWp (kas_ask prog w A κ vs) Q s') E s:=by
 obtain ⟨fs,h1,h2,h3⟩:=uS H
 refine kat_kind h1 (by exact Ux hn h2) (T:=.type "str") (λ v hv=>?_) (by decide) ?_
 ·obtain ⟨op,t,rfl⟩:=h3 v hv
  exact Looks.of_pure rfl
 ·rw[show (Value.type "str" !=Value.type "tuple")=true by decide]
  refine Cd (λ i j C hi hj hC=>?_) hQ (Dh hn)
  have get:∀i,i<vs.length→∃k,uB k∧bH s.heap (cH.av k) (vs.getD i .none):=λ i hi=>by
   have e:vs.getD i .none=vs[i]:=by simp[hi]
   rw[e];exact H _ (List.getElem_mem hi)
  obtain ⟨k,a1,a2⟩:=get i hi
  obtain ⟨k',b1,b2⟩:=get j hj
  exact H9 a1 b1 a2 b2 hC
end
open SetTable
section
variable {prog:Program} {w:World} {A:Around} {E:Value→Shared→Prop} {s:Shared} {D:Addr} {vs:List Value}
theorem aO.pick {h:Heap} {zs:List AV} {vs:List Value} (hv:aO h zs vs):∀{l:List Nat},(∀i∈l,i<vs.length)→aO h (l.map λ i=>zs.getD i .none) (l.map λ i=>vs.getD i Value.none)
 | [],_=>.nil
 | i::r,H=>by
  have hi:=H i List.mem_cons_self
  obtain ⟨z,h1,h2⟩:=hv.get' (List.getElem?_eq_getElem hi)
  refine .cons ?_ (hv.pick λ j hj=>H j (List.mem_cons_of_mem _ hj))
  show bH h (zs.getD i .none) (vs.getD i Value.none)
  rw[List.getD_eq_getElem?_getD,h1,List.getD_eq_getElem?_getD,List.getElem?_eq_getElem hi]
  exact h2
theorem Au {α:Type} {d:α} (zs:List α):(List.range zs.length).map (λ i=>zs.getD i d)=zs:=by
 apply List.ext_getElem
 ·simp
 ·intro i h1 h2
  simp[h2]
theorem An {n:Nat} {P:Fin→Shared→Prop} (ho:s.heap.get? D=some (listOf vs.toArray n)) (h2:vs.length<2) (h:P (.done (.ret .none)) {s with heap:=sortedHeap s.heap D vs vs.toArray}):
  wpAny (model prog w) A (Builtin.«list.sort» ⟨[.ref D],[]⟩) P E s:=by
 rw[list_sort_plain]
 have ha:D<s.heap.objs.size:=Heap.lt_size ho
 have hsz:vs.toArray.size=vs.length:=by simp
 refine wpAny_bind (listItems_at ho rfl ?_)
 refine wpAny_bind (listUpdate_at ho rfl ?_ (by rw[hsz];have:=bL;exact Jq h2 this) (Nat.zero_le _))
 obtain ⟨e1,ho1⟩:∃e1,(s.heap.update D (Obj.mapSeq λ _=>#[])).get? D=some (seqObj "list" #[] e1):=⟨_,get?_update_seq ho (λ _=>#[])⟩
 refine wpAny_bind (seqEpoch_at ho1 rfl ?_)
 refine wpAny_bind (wpAny_newTuple ?_ (by have:=bL;show vs.length≤_;exact Jq h2 this))
 refine wpAny_bind (wpAny_newList ?_ (Nat.zero_le _))
 refine wpAny_holding ?_
 have ho6:(((s.heap.update D (Obj.mapSeq λ _=>#[])).push (seqObj "tuple" vs.toArray 0)).push (seqObj "list" #[] 0)).get? D=some (seqObj "list" #[] e1):=Heap.get?_push_of_some _ (Heap.get?_push_of_some _ ho1)
 show wpAny (model prog w) A _ P E {s with heap:=((s.heap.update D (Obj.mapSeq λ _=>#[])).push (seqObj "tuple" vs.toArray 0)).push (seqObj "list" #[] 0)}
 dsimp only
 have h2':vs.toArray.size<2:=by rw[hsz];exact h2
 rw[if_pos h2',if_pos h2']
 refine wpAny_bind (wpAny_pure ?_)
 rw[StateT.run_pure]
 refine wpAny_bind (wpAny_pure ?_)
 dsimp only
 refine wpAny_bind (seqEpoch_at ho6 rfl ?_)
 have e:(arrOf (SortSt.mk' general' (vs.toArray.zip vs.toArray) #[] 7 none)).map (·.2)=vs.toArray:=by
  have:vs.zip vs=vs.map λ v=>(v,v):=by
   clear h h2 h2' hsz ho ho6
   induction vs with
   | nil=>rfl
   | cons v r ih=>rw[List.zip_cons_cons,ih];rfl
  show (vs.toArray.zip vs.toArray).map (·.2)=vs.toArray
  simp[this,Function.comp_def]
 rw[e]
 refine wpAny_bind (listUpdate_at ho6 rfl ?_ (Nat.zero_le _) (by rw[hsz];have:=bL;exact Uk h2))
 simp only[bne_self_eq_false,Bool.false_eq_true,if_false]
 exact wpAny_pure h
theorem Cv {b:Bool} {zs:List AV} {h₀:Heap} {L:Addr} {m:Str→Option Value} {n:Nat} (F:Fr h₀ L s.heap m) (ho:s.heap.get? D=some (listOf vs.toArray n)) (hDL:D≠L) (hD0:h₀.get? D=none)
  (hv:aO s.heap zs vs) (hz:∀z∈zs,Dr b z∧(b=false→∃k,uB k∧z=cH.av k)) (h64:vs.length<64) {Q:Value→Shared→Prop}
  (h:∀h' out c zs',Fr h₀ L h' m→News h₀ L h' ((D,listOf out c)::fJ h₀ s.heap L [D])→aO h' zs' out.toList→zs'.Perm zs→Q .none {s with heap:=h'}):
  wpAny (model prog w) A (call (.builtin "list.sort") [.ref D]) Q E s:=by
 have evk:∀{h':Heap},(∀b o,b≠D→s.heap.get? b=some o→h'.get? b=some o)→Ev s.heap h':=λ k=>wI ho k
 have plain:∀(out:Array Value) (zs':List AV),aO s.heap zs' out.toList→zs'.Perm zs→Q .none {s with heap:=sortedHeap s.heap D vs out}:=by
  intro out zs' h1 h2
  have k:∀b o,b≠D→s.heap.get? b=some o→(sortedHeap s.heap D vs out).get? b=some o:=λ b o hb e=>eM hb e
  obtain ⟨c,hc⟩:=sortedHeap_at (n:=n) (out:=out) ho
  obtain ⟨oL,a1,a2,hL,a3⟩:=F.ns
  refine h _ out c zs' ⟨⟨oL,a1,a2,k _ _ (Ne.symm hDL) hL,a3⟩,λ b o e=>k b o (by rintro rfl;rw[hD0] at e;cases e) (F.keep b o e),F.above⟩ (λ p hp=>?_) (h1.ev (evk k)) h2
  rcases List.mem_cons.mp hp with rfl | hp
  ·exact ⟨hc,hDL,hD0⟩
  ·obtain ⟨p1,p2,p3,p4⟩:=dF.mp (show (p.1,p.2)∈_ from hp)
   exact ⟨k _ _ (by simpa using p2) p4,p1,p3⟩
 cases b with
 | true=>
  obtain ⟨ns,rfl⟩:∃ns,zs=aS ns:=by
   clear hv plain h
   induction zs with
   | nil=>exact ⟨[],rfl⟩
   | cons z r ih=>
    obtain ⟨n,rfl⟩:∃n,z= .int n:=(hz z List.mem_cons_self).1
    obtain ⟨ns,rfl⟩:=ih λ z hz'=>hz z (List.mem_cons_of_mem _ hz')
    exact ⟨n::ns,rfl⟩
  exact wpAny_call_entry slot_list_sort ⟨_,ho,rfl⟩ entry_list_sort (list_sort_tree ho (gN hv) h64 λ out ns' a1 a2 _=>⟨_,rfl,plain out (aS ns') (lG a1) (a2.map _)⟩) (args_list_sort _)
 | false=>
  by_cases h2:vs.length<2
  ·exact wpAny_call_entry slot_list_sort ⟨_,ho,rfl⟩ entry_list_sort (An ho h2 ⟨_,rfl,plain vs.toArray zs hv (.refl _)⟩) (args_list_sort _)
  refine wpAny_call_entry slot_list_sort ⟨_,ho,rfl⟩ entry_list_sort (kat_list_sort (news:=fJ h₀ s.heap L [D]) F eV ho hDL hD0 (λ p hp=>?_) (by exact Nat.le_of_not_lt ‹_›) h64 λ e1 h' F' N'=>?_) (args_list_sort _)
  ·have:=(dF.mp (show (p.1,p.2)∈_ from hp)).2.1
   simpa using this
  have k:∀b o,b≠D→b≠L→s.heap.get? b=some o→h'.get? b=some o:=λ b o hb hbL e=>
   mL F' N' (λ p hp=>List.mem_cons_of_mem _ hp) F.keep b o hbL (by simpa using hb) e
  have evL:∀{h₁ h₂:Heap},Fr h₀ L h₁ m→(∀b o,b≠D→b≠L→h₁.get? b=some o→h₂.get? b=some o)→(∀its,h₁.get? D≠some (cB its))→Ev h₁ h₂:=by
   intro h₁ h₂ G kk hD b its hb
   obtain ⟨oL,a1,a2,hL,hdd,_⟩:=G.ns
   refine kk b _ ?_ ?_ hb
   ·rintro rfl;exact hD its hb
   ·rintro rfl;rw[hL] at hb;cases hb;cases hdd
  have ev1:Ev s.heap h':=evL F k λ its e=>by rw[ho] at e;exact absurd (congrArg Obj.cls (Option.some.inj e)) (by simp)
  refine Cw (s:={s with heap:=h'}) (by exact Zs h2) (λ v hvm=>?_) λ p hp=>?_
  ·obtain ⟨i,hi,rfl⟩:=List.mem_iff_getElem.mp hvm
   obtain ⟨z,hz1,hz2⟩:=hv.get' (List.getElem?_eq_getElem hi)
   obtain ⟨_,hk⟩:=hz z (List.mem_of_getElem? hz1)
   obtain ⟨k,hk1,rfl⟩:=hk rfl
   exact ⟨k,hk1,hz2.ev ev1⟩
  ·refine KasFin.intro F' N' (g:=λ o=>(D,o)::fJ h₀ s.heap L [D]) (.head λ q hq=>?_) λ h2' c F2 N2=>⟨_,rfl,?_⟩
   ·have:=(dF.mp (show (q.1,q.2)∈_ from hq)).2.1
    simpa using this
   ·have hD':=(N' _ List.mem_cons_self).1
    have ev2:Ev s.heap h2':=evL F (λ b o hb hbL e=>mL F2 N2 (λ p hp=>List.mem_cons_of_mem _ hp) F.keep b o hbL (by simpa using hb) e) λ its e=>by rw[ho] at e;exact absurd (congrArg Obj.cls (Option.some.inj e)) (by simp)
    have hl:=hv.length
    refine h _ _ c (p.toList.map λ i=>zs.getD i .none) F2 N2 ?_ ?_
    ·exact (hv.pick λ i hi=>List.mem_range.mp (hp.mem_iff.mp hi)).ev ev2
    ·have:=hp.map (λ i=>zs.getD i .none)
     rw[hl,Au] at this
     exact this
end
open SetTable
noncomputable abbrev zT (c:Cx) (b:Bool) (xs:List AV):AO:=.raw (dM c.prog c.w b (eT c.w) xs)
theorem dM.pick {p:Program} {w:World} {b led:Bool} {xs:List AV} {h:Heap} {S:Addr} {ps:List (Int×Value)} (q:Wh h xs ps):∀{ys:List Value},(∀v∈ys,∃e∈ps,v=e.2)→∃zs,aO h zs ys∧∀z∈zs,z∈xs
 | [],_=>⟨[],.nil,nn⟩
 | v::r,H=>by
  obtain ⟨e,he,rfl⟩:=H v List.mem_cons_self
  obtain ⟨x,hx,hv⟩:=q.1 e he
  obtain ⟨zs,h1,h2⟩:=dM.pick (p:=p) (w:=w) (b:=b) (led:=led) (S:=S) q (ys:=r) λ u hu=>H u (List.mem_cons_of_mem _ hu)
  refine ⟨x::zs,.cons hv h1,λ z hz=>?_⟩
  rcases List.mem_cons.mp hz with rfl | hz
  ·exact hx
  ·exact h2 z hz
theorem Dr.inj {b:Bool} {x y:AV} {h:Heap} {v:Value} (hx:Dr b x) (hy:Dr b y) (q1:bH h x v) (q2:bH h y v) (p:Program) (w:World):x=y:=by
 cases b with
 | true=>
  obtain ⟨n,rfl⟩:∃n,x= .int n:=hx
  obtain ⟨m,rfl⟩:∃n,y= .int n:=hy
  rw[VIs_int] at q1 q2
  obtain ⟨t,rfl⟩:=q1
  obtain ⟨u,e⟩:=q2
  cases e;rfl
 | false=>
  obtain ⟨k,rfl⟩:∃k,x=cH.av k:=hx
  obtain ⟨k',rfl⟩:∃k,y=cH.av k:=hy
  obtain ⟨a,_,rfl,_,_,i1⟩:=iN (prog:=p) (w:=w) q1
  obtain ⟨a',_,e,_,_,i2⟩:=iN (prog:=p) (w:=w) q2
  cases e
  rw[(aW p w).inj i1 i2]
section
variable {c:Cx} {env:Env} {loc:aV} {σ:aF} {Φ:AV→aF→Prop} {l S:Addr} {t:Tg} {xs:List AV} {b:Bool}
theorem Af (t2:Tg) (b:Bool) (hl:σ l=some (t,.list xs)) (hall:∀x∈xs,Dr b x) (hn:xs.length<64) (h:∀S,σ S=none→Φ (.ref S) (σ.put S (t2,zT c b xs))):WC c env loc σ (.type "set") [.ref l] Φ:=WC.one λ ρ s v q hv=>by
 rw[VIs_ref] at hv;subst hv
 obtain ⟨items,n,h5,h6⟩:=q.obj l t _ hl
 have hlen:=h6.length
 rw[Array.length_toList] at hlen
 refine wM (xs:=xs) (b:=b) (by have:=q.base.room;exact Q5 this) q.base.hand h5 (by exact T3 hn hlen) hall h6 λ h' tk k hS=>?_
 have z:=q.new (s':={s with heap:=h',toks:=tk}) (a:=s.heap.objs.size) (y:=(t2,zT c b xs)) rfl rfl (Nat.le_refl _) k ⟨dM.ok ..,hS⟩
 exact ⟨.ref _,_,by simp,h _ z.2.2,z.1,z.2.1⟩
theorem kX (t2:Tg) (hS:σ S=some (t,zT c b xs)) (hall:∀x∈xs,Dr b x∧(b=false→∃k,uB k∧x=cH.av k)) (hn:xs.length<64)
  (h:∀D ys,σ D=none→(∀x,x∈ys↔x∈xs)→ys.length≤xs.length→Φ (.ref D) (σ.put D (t2,.list ys))):WC c env loc σ (.builtin "sorted") [.ref S] Φ:=WC.one λ ρ s v q hv=>by
 rw[VIs_ref] at hv;subst hv
 obtain ⟨_,ps,⟨es,ep,tb,h1,ok,room,hl,hp⟩,_,hcov,hlen⟩:=q.obj S t _ hS
 obtain ⟨m,F,hq⟩:=q.frame
 have hes:es.size=ps.length:=by rw[←Array.length_toList,hp.length_eq]
 refine call_function_entry kind_sorted plain_sorted entry_sorted (args_sorted1 _) ?_
 unfold Builtin.«sorted»
 refine wpAny_bind (m:=checkCount "sorted" 1 1 _) (wpAny_pure ?_)
 refine wpAny_bind (xJ (A:=c.A.in1) q.base.hand h1 ok hl (by exact Qp hn hlen hes) λ h' d ys k hyl hym=>?_)
 refine wpAny_bind (wpAny_newList ?_ (by have:=bL;exact Ny hn hlen hes hyl this))
 have ev1:Ev s.heap h':=Ev.keeps k
 obtain ⟨zs,hz1,hz2⟩:=dM.pick (p:=c.prog) (w:=c.w) (b:=b) (led:=tb.led) (S:=S) (hcov.ev ev1) (ys:=ys) λ v hv=>by
  obtain ⟨e,he,rfl⟩:=List.mem_map.mp ((hym v).mp hv)
  exact ⟨e,hp.mem_iff.mp he,rfl⟩
 have hzl:=hz1.length
 have k2:∀b o,s.heap.get? b=some o→(h'.push (listOf ys.toArray 0)).get? b=some o:=λ b o e=>Heap.get?_push_of_some _ (k b o e)
 have dead:s.heap.get? h'.objs.size=none:=by
  cases e:s.heap.get? h'.objs.size with
  | none=>rfl
  | some o=>exact absurd (Heap.lt_size (k _ _ e)) (Nat.lt_irrefl _)
 have un:=q.unused dead
 have hDL:h'.objs.size≠env.locals:=un.2.2.2.1
 have low0:(c.low env).get? h'.objs.size=none:=by
  cases e:(c.low env).get? h'.objs.size with
  | none=>rfl
  | some o=>rw[q.keep' _ _ e] at dead;cases dead
 have hD:(h'.push (listOf ys.toArray 0)).get? h'.objs.size=some (listOf ys.toArray 0):=Heap.get?_push_size _ rfl
 refine wpAny_bind (wpAny_holding (Cv (s:={s with heap:=h'.push (listOf ys.toArray 0),drawn:=d}) (b:=b) (F.kept k2) hD hDL low0 (hz1.ev (Ev.keeps λ _ _ e=>Heap.get?_push_of_some _ e)) (λ z hz=>hall z (hz2 z hz)) (by exact On hn hlen hes hyl) λ h2 out c2 zs' F2 N2 hv2 hpm=>?_))
 have hsub:∀p∈fJ (c.low env) s.heap env.locals [],p∈((h'.objs.size,listOf out c2)::fJ (c.low env) (h'.push (listOf ys.toArray 0)) env.locals [h'.objs.size]:List (Addr×Obj)):=λ p hp=>by
  obtain ⟨p1,p2,p3,p4⟩:=dF.mp (show (p.1,p.2)∈_ from hp)
  refine List.mem_cons_of_mem _ (dF.mpr ⟨p1,?_,p3,k2 _ _ p4⟩)
  rw[List.mem_singleton]
  intro e
  rw[e,dead] at p4;cases p4
 have z:=q.viaNews (s':={s with heap:=h2,drawn:=d}) rfl rfl F hq F2 N2 hsub
 have z2:=z.1.track (a:=h'.objs.size) (y:=(t2,.list zs')) ⟨un.1,un.2.2.1,un.2.2.2.1,un.2.2.2.2⟩ ⟨out,c2,(N2 _ List.mem_cons_self).1,hv2⟩
 refine wpAny_pure ⟨_,rfl,.ref h'.objs.size,_,by simp,h _ zs' un.2.1 (λ x=>?_) (by rw[hpm.length_eq];exact Np hlen hes hyl hzl),z2,z.2.1⟩
 rw[hpm.mem_iff]
 constructor
 ·exact hz2 x
 ·intro hx
  obtain ⟨e,he,hv⟩:=hcov.2 x hx
  obtain ⟨i,hi,e2⟩:=List.mem_iff_getElem.mp ((hym e.2).mpr (List.mem_map.mpr ⟨e,hp.mem_iff.mpr he,rfl⟩))
  obtain ⟨y,h3,h4⟩:=hz1.get' (List.getElem?_eq_getElem hi)
  have hym':=List.mem_of_getElem? h3
  rw[e2] at h4
  rw[Dr.inj (hall x hx).1 (hall y (hz2 y hym')).1 (hv.ev ev1) h4 c.prog c.w]
  exact hym'
end
theorem cn {k m n:Nat} (h:m≤n) (hk:Nat.ble (k+1) m=true:=by rfl):k≤n-1:=Nat.le_sub_one_of_lt (Nat.le_trans (Nat.le_of_ble_eq_true hk) h)
theorem cn2 {k m n:Nat} (h:m≤n) (hk:Nat.ble (k+2) m=true:=by rfl):k≤n-1-1:=cn (m:=m-1) (Nat.sub_le_sub_right h 1) (Nat.ble_eq_true_of_le (Nat.le_sub_one_of_lt (Nat.le_of_ble_eq_true hk)))
theorem c1 {m n:Nat} (h:m≤n) (hk:Nat.ble 1 m=true:=by rfl):1≤n:=Nat.le_trans (Nat.le_of_ble_eq_true hk) h
noncomputable abbrev HL:=Nat→Addr
set_option genInjectivity false in
set_option genSizeOfSpec false in
structure HM where
 nodes:List (Str×List Int)
 weights:List Int
 depths:List Int
 up:List Int
 lots:List (Addr×List Int)
 merged:List AV
 edges:List AV
 forest:List AV
 known:List (cH×Int)
 above:List (Int×Addr×List Int)
 waiting:List Int
noncomputable def cR (n:Str×List Int):cH:=bZ.s n.1::n.2.map bZ.i
noncomputable def bS (ns:List (Str×List Int)):List (cH×AV):=ns.mapIdx λ i n=>(cR n,.int i)
noncomputable def A8 (L:HL):List (Str×AV):=[(z162,.ref (L 3)),(z166,.ref (L 5)),(z163,.ref (L 14)),(z164,.ref (L 15)),(z165,.ref (L 16)),(z126,.ref (L 17)),(z167,.ref (L 18)),(z59,.int 0)]
noncomputable def Bi (L:HL):List (Str×AV):=[(z101,.ref (L 7)),(z102,.ref (L 8)),(z103,.ref (L 9)),(z100,.ref (L 10))]
noncomputable def qH (L:HL):List (Str×AV):=[(z126,.ref (L 11)),(z127,.ref (L 12)),(z128,.ref (L 13))]
noncomputable def eA (L:HL) (M:HM):List (Tg×Addr×AO):=[
 (.t 0,0,.lit 0),(.t 1,(L 1),.inst 498 (L 2)),(.t 2,(L 2),.ns (A8 L)),(.t 3,(L 3),.inst 284 (L 4)),(.t 4,(L 4),.ns (Bi L)),(.t 5,(L 5),.inst 366 (L 6)),(.t 6,(L 6),.ns (qH L)),
 (.t 7,(L 7),.list (M.nodes.map λ n=>(cR n).av)),(.t 8,(L 8),.tdict (bS M.nodes)),(.t 9,(L 9),.list (aS M.weights)),(.t 10,(L 10),.list (aS M.depths)),
 (.t 11,(L 11),.list (aS M.up)),(.t 12,(L 12),.list (M.lots.map λ p=>.ref p.1)),(.t 13,(L 13),.list M.merged),(.t 14,(L 14),.list M.edges),(.t 15,(L 15),.list M.forest),
 (.t 16,(L 16),.tdict (M.known.map λ p=>(p.1,.int p.2))),(.t 17,(L 17),.idict (M.above.map λ p=>(p.1,.ref p.2.1))),(.t 18,(L 18),.list (aS M.waiting))]
theorem cW {L:HL} {M:HM} {i:Nat} {x:Tg×Addr×AO} (h:(eA L M)[i]? =some x):x.1= .t i:=by
 have e:((eA L M).map (·.1))[i]? =some x.1:=by rw[List.getElem?_map,h];rfl
 have e2:(eA L M).map (·.1)=(List.range 19).map Tg.t:=rfl
 rw[e2,List.getElem?_map] at e
 obtain ⟨k,hk,e3⟩:=Option.map_eq_some_iff.mp e
 obtain ⟨hl,hk⟩:=List.getElem?_eq_some_iff.mp hk
 rw[←e3,←hk,List.getElem_range]
structure aI (L:HL) (M:HM) (σ:aF):Prop where
 fix:∀i t a ao,i≠0→(eA L M)[i]? =some (t,a,ao)→σ a=some (t,ao)
 lot:∀(i:Nat) a l,M.lots[i]? =some (a,l)→σ a=some (.u 1 i,.list (aS l))
 abv:∀(k:Nat) a l,((k:Int),a,l)∈M.above→σ a=some (.u 2 k,.list (aS l))
section
variable {L:HL} {M M':HM} {σ:aF}
theorem aI.at (q:aI L M σ) (i:Nat) {t:Tg} {a:Addr} {ao:AO} (h:(eA L M)[i]? =some (t,a,ao):=by rfl) (hi:i≠0:=by decide):σ a=some (t,ao):=q.fix i t a ao hi h
theorem aI.upd (q:aI L M σ) (i:Nat) {a:Addr} {ao ao':AO} (h:(eA L M)[i]? =some (.t i,a,ao)) (hi:i≠0) (h':eA L M'=(eA L M).set i (.t i,a,ao')) (hl:M'.lots=M.lots) (ha:M'.above=M.above):aI L M' (σ.put a (.t i,ao')) where
 fix:=λ j t b bo hj e=>by
  rw[h',List.getElem?_set] at e
  by_cases hij:i=j
  ·subst hij
   have hlt:=(List.getElem?_eq_some_iff.mp h).1
   rw[if_pos rfl,if_pos hlt] at e
   cases e
   exact aF.put_same ..
  ·rw[if_neg hij] at e
   have:=cW e
   dsimp only at this
   subst this
   exact aF.put_tag _ (q.fix i _ _ _ hi h) (q.fix j _ _ _ hj e) (by intro x;cases x;exact hij rfl)
 lot:=λ j b l e=>aF.put_tag _ (q.fix i _ _ _ hi h) (q.lot j b l (hl▸e)) (dK rfl)
 abv:=λ k b l e=>aF.put_tag _ (q.fix i _ _ _ hi h) (q.abv k b l (ha▸e)) (dK rfl)
theorem aI.new (q:aI L M σ) {D:Addr} (hD:σ D=none) (y:Tg×AO):aI L M (σ.put D y):=
 ⟨λ i t a ao h e=>aF.put_new _ hD (q.fix i t a ao h e),λ i a l e=>aF.put_new _ hD (q.lot i a l e),λ k a l e=>aF.put_new _ hD (q.abv k a l e)⟩
end
noncomputable def eO:Tg→Bool
 | .t n=>decide (n≤18)
 | .u n _=>n==1||n==2
noncomputable def fQ (σ σ':aF):Prop:=∀t a ao,eO t=false→σ a=some (t,ao)→σ' a=some (t,ao)
theorem fQ.refl (σ:aF):fQ σ σ:=λ _ _ _ _ h=>h
theorem fQ.trans {a b c:aF} (x:fQ a b) (y:fQ b c):fQ a c:=λ t d o h e=>y t d o h (x t d o h e)
theorem fQ.put {σ σ':aF} (x:fQ σ σ') {a:Addr} {y:Tg×AO} (ha:σ' a=none∨∃t o,eO t=true∧σ' a=some (t,o)):fQ σ (σ'.put a y):=λ t b o h e=>by
 have hb:=x t b o h e
 rw[aF.put_ne,hb]
 rintro rfl
 rcases ha with ha | ⟨t',o',h',ha⟩
 ·rw[ha] at hb;cases hb
 ·rw[ha] at hb;cases hb
  rw[h] at h';cases h'
noncomputable def lR (K:Frag) (C:Addr) (name:Str):Bool:=plainGet K C name&&hasDictIn K C&&(match findIn K (.ref C) name with | some none=>true | _=>false)
noncomputable def iL (K:Frag) (C:Addr) (name:Str) (f:Addr):Bool:=plainGet K C name&&(match findIn K (.ref C) name with | some (some (.ref g))=>g==f | _=>false)&&isFn K (.ref f)&&keepIn K (.ref f)
noncomputable def AV.handed:AV→Bool
 | .ref _ | .int _ | .none | .bool _ | .str _=>true
 | _=>false
theorem AV.handed_of {v:AV} (hv:v.handed=true) (h:Heap) (u:Value) (q:bH h v u):handedIn u=true:=by
 cases v with
 | ref a=>rw[VIs_ref] at q;subst q;rfl
 | int i=>rw[VIs_int] at q;obtain ⟨t,rfl⟩:=q;rfl
 | none=>rw[VIs_none] at q;subst q;rfl
 | bool b=>rw[VIs_bool] at q;subst q;rfl
 | str s=>rw[VIs_str] at q;obtain ⟨t,rfl⟩:=q;rfl
 | tup _=>cases hv
 | lit _=>cases hv
 | any=>cases hv
section
variable {c:Cx} {env:Env} {loc:aV} {σ:aF} {Φ:AV→aF→Prop}
theorem fO {o:Expr} {name:Str} {pos:Pos} {x C d:Addr} {t t':Tg} {m:List (Str×AV)} {v:AV} (hx:σ x=some (t,.inst C d)) (hd:σ d=some (t',.ns m)) (hm:m.lookup name=some v) (ha:lR (KK c.w) C name=true) (hv:v.handed=true)
  (ho:∀Ψ:AV→aF→Prop,Ψ (.ref x) σ→WE c env loc σ o Ψ) (h:Φ v σ)
  (hbase:attributeBase o name env (eval o env)=eval o env:=by with_unfolding_all rfl):WE c env loc σ (.Attribute o name pos) Φ:=by
 unfold lR at ha
 rw[Bool.and_eq_true,Bool.and_eq_true] at ha
 obtain ⟨⟨h1,h2⟩,h3⟩:=ha
 refine Ig (ho _ ⟨x,C,d,t,t',m,v,rfl,hx,hd,hm,h1,h2,?_,AV.handed_of hv,h⟩) hbase
 cases e:findIn (KK c.w) (.ref C) name with
 | none=>rw[e] at h3;cases h3
 | some r=>cases r with
  | none=>rfl
  | some _=>rw[e] at h3;cases h3
noncomputable abbrev KDo (c:Cx) (f x:Addr) (Φ:AV→aF→Prop):List AV→aF→Prop:=λ as σ2=>gG c σ2 (.ref f) (.ref x::as) Φ
theorem bG {o:Expr} {name:Str} {apos pos:Pos} {args:List Expr} {x C d f:Addr} {t t':Tg} {m:List (Str×AV)} (hx:σ x=some (t,.inst C d)) (hd:σ d=some (t',.ns m)) (hm:m.lookup name=none) (ha:iL (KK c.w) C name f=true)
  (ho:∀Ψ:AV→aF→Prop,Ψ (.ref x) σ→WE c env loc σ o Ψ) (h:iG c env loc σ pos args (KDo c f x Φ))
  (hbase:attributeBase o name env (eval o env)=eval o env:=by with_unfolding_all rfl)
  (hfew:methodCallForm args.length (backTo pos (starEach args env)) []=true:=by rfl)
  (hline:(apos.endLine==pos.line)=true:=by rfl)
  (hp:(backTo pos (starEach args env)).any (·.1)=false:=by rfl):WE c env loc σ (.Call (.Attribute o name apos) args [] pos) Φ:=by
 unfold iL at ha
 rw[Bool.and_eq_true,Bool.and_eq_true,Bool.and_eq_true] at ha
 obtain ⟨⟨⟨h1,h2⟩,h3⟩,h4⟩:=ha
 refine wV (ho _ ⟨.ref f,C6 hx hd hm h1 ?_ h3,A3 h4,WX.mono h λ as σ2 w=>J5 w⟩) hbase hfew hline hp
 split at h2
 ·rename_i g e
  rw[beq_iff_eq] at h2
  subst h2;exact e
 ·cases h2
theorem aM {x:Str} {pos:Pos} {av:AV} (hv:loc x=some av) (hk:env.kindOf x=some .local) (hd:(x==("__debug__":Str))=false:=by decide):∀Ψ:AV→aF→Prop,Ψ av σ→WE c env loc σ (.Name x pos) Ψ:=λ _ h=>aC hv hk h hd
theorem bX {x:Str} {pos:Pos} {av:AV} {Ψ:aV→aF→Prop} (hk:env.kindOf x=some .local) (hc:env.cells=[]) (h:Ψ (loc.put x av) σ):WA c env loc σ (.Name x pos) av Ψ:=
 eJ hk h λ a=>by rw[hc];exact List.not_mem_nil
end
noncomputable def kD:List Str:=[z101,z102,z103,z100]
theorem lS (w:World):(kD.all λ n=>lR (KK w) 284 n)=true:=by kernel_rfl
theorem iD (w:World):([z126,z127,z128].all λ n=>lR (KK w) 366 n)=true:=by kernel_rfl
theorem Lg (w:World):([z162,z166,z163,z164,z165,z126,z167,z59].all λ n=>lR (KK w) 498 n)=true:=by kernel_rfl
theorem Gm (w:World):([z46,z47,z25,z60,z59].all λ n=>lR (KK w) 130 n)=true:=by kernel_rfl
theorem Bm {l:List Str} {f:Str→Bool} (h:l.all f=true) {n:Str} (hn:l.contains n=true):f n=true:=List.all_eq_true.mp h n (by simpa using hn)
theorem eE (w:World):([(z107,323),(z71,316),(z106,309),(z108,330),(z109,337),(z110,342)].all λ p=>iL (KK w) 366 p.1 p.2)=true:=by kernel_rfl
noncomputable def iH (up:List Int):Prop:=∀(i:Nat) (j:Int),up[i]? =some j→0≤j∧j≤i
inductive fG (up:List Int):Nat→Nat→Prop
 | here {a:Nat}:up[a]? =some (a:Int)→fG up a a
 | step {a r:Nat} {j:Int}:up[a]? =some j→j≠(a:Int)→fG up j.toNat r→fG up a r
section
variable {c:Cx} {σ:aF} {L:HL} {M:HM}
theorem pZ (hn:1≤c.n) (q:aI L M σ) (hu:iH M.up) (hz:M.up.length≤1000) {a:Nat} (ha:a<M.up.length) {Φ:AV→aF→Prop} (hΦ:∀r:Nat,r<M.up.length→M.up[r]? =some (r:Int)→fG M.up a r→Φ (.int r) σ):
  gG c σ (.ref 323) [.ref (L 5),.int a] Φ:=by
 refine (tO c.w).call hn rfl λ K=>?_
 refine aE ?_
 refine jS (λ n loc σ'=>σ'=σ∧loc z23=some (.ref (L 5))∧loc z116=some (.int (n:Int))∧n<M.up.length∧∀r,fG M.up n r→fG M.up a r) a ⟨rfl,rfl,rfl,ha,λ _ h=>h⟩ ?_
 rintro n loc _ ⟨rfl,h1,h2,h3,h4⟩
 have hx:M.up[n]? =some M.up[n]:=List.getElem?_eq_getElem h3
 have hxa:(aS M.up)[n]? =some (.int M.up[n]):=by rw[aS,List.getElem?_map,hx];rfl
 obtain ⟨k0,k1⟩:=hu n _ hx
 have U:=q.at 5
 have Ud:=q.at 6
 have up:=q.at 11
 refine aT (bF (fO U Ud rfl (Bm (iD c.w) rfl) rfl (aM h1 rfl) (aC h2 rfl (bC up hxa (by exact uQ hz h3) ?_))))
 refine aC h2 rfl (Bx ⟨_,rfl,?_⟩)
 by_cases e:M.up[n]=(n:Int)
 ·rw[show (M.up[n] !=(n:Int))=false by simp[e],if_neg (by simp)]
  refine aE (aR (aC h2 rfl ⟨_,rfl,hΦ n h3 (by rw[hx,e]) (h4 n (.here (by rw[hx,e])))⟩))
 ·rw[show (M.up[n] !=(n:Int))=true by simp[e],if_pos rfl]
  refine aE (aJ (bF (fO U Ud rfl (Bm (iD c.w) rfl) rfl (aM h1 rfl) (aC h2 rfl (bC up hxa (by exact uQ hz h3) ?_)))))
  refine bX rfl rfl (aP ⟨M.up[n].toNat,by exact M7 k0 k1 e,rfl,h1,?_,by exact Rm h3 k1,λ r hr=>h4 r (.step hx e hr)⟩)
  show some (AV.int M.up[n])=_
  rw[Int.toNat_of_nonneg k0]
end
noncomputable def Ld (K:Frag) (x:Str) (v:Value):Bool:=(match nsIn K mainGlobals x with | some none=>true | _=>false)&&(match bootBuiltins x with | some u=>u==v | none=>false)
theorem V8 (w:World):([(z186,Value.builtin "len"),(z180,.builtin "sorted"),(z176,.builtin "max"),(z177,.builtin "min"),(z178,.builtin "sum"),(z227,.builtin "abs"),(z185,.type "list"),(z198,.type "tuple"),(z207,.type "set"),(z206,.type "range"),(z215,.type "enumerate"),(z231,.type "str")].all λ p=>Ld (KK w) p.1 p.2)=true:=by kernel_rfl
section
variable {c:Cx} {env:Env} {loc:aV} {σ:aF} {Φ:AV→aF→Prop}
noncomputable abbrev CT (c:Cx) (env:Env) (loc:aV) (v:Value) (Φ:AV→aF→Prop):List AV→aF→Prop:=λ as σ2=>WC c env loc σ2 v as Φ
theorem bP {x:Str} {v:Value} {p pos:Pos} {args:List Expr} (e:Ld (KK c.w) x v=true) (hk:env.kindOf x=some .globalImplicit) (kp:Bp c v) (h:iG c env loc σ pos args (CT c env loc v Φ))
  (hnm:x≠"__name__":=by decide) (hd:(x==("__debug__":Str))=false:=by decide)
  (hform:eval (.Call (.Name x p) args [] pos) env=(do callWith pos (←eval (.Name x p) env) [] (backTo pos (starEach args env)) []):=by rfl)
  (hp:(backTo pos (starEach args env)).any (·.1)=false:=by rfl):WE c env loc σ (.Call (.Name x p) args [] pos) Φ:=by
 unfold Ld at e
 rw[Bool.and_eq_true] at e
 obtain ⟨e1,e2⟩:=e
 refine wX (Bn (v:=v) ?_ ?_ hk ⟨v,rfl,kp,h⟩ hnm hd) hform hp
 ·split at e1
  ·assumption
  ·cases e1
 ·split at e2
  ·rename_i u eu;rw[eq_of_beq e2] at eu;exact eu
  ·cases e2
end
noncomputable def Cf (scope:Scope) (x:Str) (ys:List Str):Bool:=
 scope.kind== .function&&(scope.names.all λ y=>y.2 != .cell&&(y.2 != .local||scope.names.lookup y.1==some .local))&&scope.names.lookup x==some .local&&ys.all λ y=>scope.names.lookup y !=some .local
theorem bY.of {env:Env} {scope:Scope} {x:Str} {cl:List (Str×Addr)} (h:Cf scope x (cl.map (·.1))=true) (hcl:closureFor scope env=pure cl) (hin:∀p∈cl,p∈env.cells) (hap:cl.Pairwise λ a b=>a.2≠b.2):bY env scope x cl:=by
 unfold Cf at h
 rw[Bool.and_eq_true,Bool.and_eq_true,Bool.and_eq_true] at h
 obtain ⟨⟨⟨h1,h2⟩,h3⟩,h4⟩:=h
 refine {kind:=eq_of_beq h1,cell:=λ y hy e=>?_,x:=eq_of_beq h3,names:=λ y hy e=>?_,clos:=hcl,inn:=λ p hp=>⟨hin p hp,λ e=>?_⟩,apart:=hap}
 ·have:=List.all_eq_true.mp h2 y hy
  rw[e] at this;cases this
 ·have:=List.all_eq_true.mp h2 y hy
  rw[e] at this
  have h5:scope.names.lookup y.1==some .local:=by simpa using this
  exact eq_of_beq h5
 ·have:=List.all_eq_true.mp h4 p.1 (List.mem_map.mpr ⟨p,hp,rfl⟩)
  rw[e] at this;simp at this
theorem cZ (w:World):Ld (KK w) z186 (.builtin "len")=true:=by kernel_rfl
section
variable {c:Cx} {σ:aF} {L:HL} {M:HM}
theorem xI (hn:1≤c.n) (q:aI L M σ) (hz:M.up.length≤1000) {Φ:AV→aF→Prop} (h:Φ (.int (M.up.length:Nat)) σ):gG c σ (.ref 316) [.ref (L 5)] Φ:=by
 refine (tL c.w).call hn rfl λ K=>aE (aR (bP (cZ c.w) rfl aK (aA (fO (q.at 5) (q.at 6) rfl (Bm (iD c.w) rfl) rfl (aM rfl rfl) (aB ?_)))))
 refine bK (q.at 11) (by rw[aS,List.length_map];exact K4 hz) ⟨_,rfl,?_⟩
 rw[aS,List.length_map];exact h
noncomputable def jW (up:List Int) (n:Nat):List Int:=((List.range n).filter λ a:Nat=>up[a]? ==some (a:Int)).map λ a:Nat=>(a:Int)
theorem wP (w:World):Ld (KK w) z206 (.type "range")=true:=by kernel_rfl
end
inductive Kd (c:Cx) (env:Env) (target:Expr) (body:List Stmt) (loc:aV) (Φ:AF→aV→aF→Prop) (a:AV) (σ1:aF):Prop
 | mk (n:Nat) (ea:a= .int (n:Int)) (hn:n≤1000000) (Inv:Nat→aV→aF→Prop) (h0:Inv 0 loc σ1) (hs:∀i l σ',i<n→Inv i l σ'→WA c env l σ' target (.int (i:Int)) (zX c env body Inv i Φ))
  (he:∀l σ',Inv n l σ'→Φ .next l σ'):Kd c env target body loc Φ a σ1
section
variable {c:Cx} {env:Env} {loc:aV} {σ:aF} {Φ:AF→aV→aF→Prop}
theorem nA {target arg:Expr} {body:List Stmt} {pos p1 p2:Pos} (hk:env.kindOf z206=some .globalImplicit) (h:WE c env loc σ arg (Kd c env target body loc Φ)) (ht:iY target=true:=by rfl)
  (hform:eval (.Call (.Name z206 p1) [arg] [] p2) env=(do callWith p2 (←eval (.Name z206 p1) env) [] (backTo p2 (starEach [arg] env)) []):=by rfl) (hp:(backTo p2 (starEach [arg] env)).any (·.1)=false:=by rfl)
  (he:starEach [arg] env=(false,eval arg env)::starEach [] env:=by rfl) (hs:∀x,foldedSetIterable (.Call (.Name z206 p1) [arg] [] p2) env x=pure x:=by intro _;rfl):WS c env loc σ (exec (.For target (.Call (.Name z206 p1) [arg] [] p2) body [] pos) env) Φ:=
 lT (bP (wP c.w) hk bN (aA (WX.mono h λ a σ1 k=>by
  obtain ⟨n,rfl,hn,Inv,h0,hs,hz⟩:=k
  refine aB (jD (.t 0) λ r hr=>?_)
  refine ⟨dD 0 (n:Int),σ1,yF hr hn ht,Inv,h0,λ i x l σ' hx hI=>?_,λ l σ' hI=>?_⟩
  ·obtain ⟨hi,rfl⟩:=gZ hx
   rw[Int.zero_add];exact hs i l σ' (by exact Fj hi) hI
  ·rw[cU,Int.sub_zero,Int.toNat_natCast] at hI
   exact hz l σ' hI) (he:=he)) (hform:=hform) (hp:=hp)) hs
end
section
variable {c:Cx} {σ:aF} {L:HL} {M:HM}
theorem Bg (hn:1≤c.n) (q:aI L M σ) (hz:M.up.length≤1000) {Φ:AV→aF→Prop}
  (h:∀σ' D,fQ σ σ'→aI L M σ'→σ' D=some (.t 0,.list (aS (jW M.up M.up.length)))→Φ (.ref D) σ'):gG c σ (.ref 342) [.ref (L 5)] Φ:=by
 refine (nT c.w).call hn rfl λ K=>aE (aR (bW (cl:=[(z23,K+1)]) (bY.of (by kernel_rfl) rfl (λ p hp=>hp) (List.pairwise_singleton _ _)) (.t 0) ?_))
 refine bP (wP c.w) rfl bN (aA (bP (cZ c.w) rfl aK (aA (fO (q.at 5) (q.at 6) rfl (Bm (iD c.w) rfl) rfl ?_ (aB ?_)))))
 ·exact λ Ψ hΨ=>cG (a:=K+1) rfl (.inl rfl) rfl hΨ
 refine bK (q.at 11) (by rw[aS,List.length_map];exact K4 hz) (aB ?_)
 rw[aS,List.length_map]
 refine jD (.t 0) λ R hR=>?_
 refine ⟨dD 0 (M.up.length:Nat),_,lJ (aF.put_same ..) (by decide) (by decide) (by exact Int.natCast_nonneg _) (by exact AH hz) rfl,by rw[cU];exact AK hz,λ i acc σ'=>σ'=σ.put R (.t 0,.range 0 (M.up.length:Nat))∧acc=aS (jW M.up i),⟨⟨rfl,rfl⟩,?_⟩,?_⟩
 ·rintro C i y acc _ hy ⟨rfl,rfl⟩
  obtain ⟨hi,rfl⟩:=gZ hy
  have hi':i<M.up.length:=by exact Fj hi
  have hxa:(aS M.up)[i]? =some (.int M.up[i]):=by rw[aS,List.getElem?_map,List.getElem?_eq_getElem hi'];rfl
  have e0:(0:Int)+(i:Int)=(i:Int):=by exact J1
  rw[e0]
  have nx:∀b:Bool,(M.up[i]==(i:Int))=b→jW M.up (i+1)=jW M.up i++(if b then [(i:Int)] else []):=by
   intro b hb
   unfold jW
   rw[List.range_succ,List.filter_append,List.map_append]
   have:(M.up[i]? ==some (i:Int))=b:=by rw[List.getElem?_eq_getElem hi',←hb];rfl
   simp only[List.filter_cons,this,List.filter_nil]
   cases b<;>rfl
  have upq:(σ.put R (.t 0,.range 0 (M.up.length:Nat))) (L 11)=some (.t 11,.list (aS M.up)):=aF.put_new _ hR (q.at 11)
  refine aT (bF (fO (aF.put_new _ hR (q.at 5)) (aF.put_new _ hR (q.at 6)) rfl (Bm (iD c.w) rfl) rfl ?_ (aC (if_pos rfl) rfl (bC upq hxa (by exact uQ hz hi') ?_))))
  ·exact λ Ψ hΨ=>cG (a:=K+1) (by rfl) (.inl rfl) rfl hΨ
  refine aC (if_pos rfl) rfl (qR ⟨_,rfl,?_⟩)
  cases hb:M.up[i]==(i:Int)
  ·rw[if_neg (by simp)]
   exact ⟨rfl,by rw[nx _ hb];simp⟩
  ·rw[if_pos rfl]
   exact aC (if_pos rfl) rfl ⟨rfl,by rw[nx _ hb,aS,aS,List.map_append];rfl⟩
 ·rintro acc _ D ⟨rfl,rfl⟩ hl hD
  rw[cU,show ((M.up.length:Nat)-(0:Int)).toNat=M.up.length by exact K1]
  refine ⟨_,rfl,h _ D ?_ ?_ (aF.put_same ..)⟩
  ·exact ((fQ.refl σ).put (.inl hR)).put (.inl hD)
  ·exact (q.new hR _).new hD _
end
noncomputable def HM.setUp (M:HM) (x:List Int):HM:={M with up:=x}
noncomputable def HM.setMg (M:HM) (x:List AV):HM:={M with merged:=x}
noncomputable def HM.setEd (M:HM) (x:List AV):HM:={M with edges:=x}
noncomputable def HM.setFo (M:HM) (x:List AV):HM:={M with forest:=x}
noncomputable def HM.setWa (M:HM) (x:List Int):HM:={M with waiting:=x}
noncomputable def HM.setKn (M:HM) (x:List (cH×Int)):HM:={M with known:=x}
noncomputable def HM.setLots (M:HM) (x:List (Addr×List Int)):HM:={M with lots:=x}
noncomputable def HM.setAb (M:HM) (x:List (Int×Addr×List Int)):HM:={M with above:=x}
section
variable {L:HL} {M:HM} {σ:aF}
theorem aI.setUp (q:aI L M σ) (x:List Int):aI L (M.setUp x) (σ.put (L 11) (.t 11,.list (aS x))):=q.upd 11 rfl (by decide) rfl rfl rfl
theorem aI.setMg (q:aI L M σ) (x:List AV):aI L (M.setMg x) (σ.put (L 13) (.t 13,.list x)):=q.upd 13 rfl (by decide) rfl rfl rfl
theorem aI.setEd (q:aI L M σ) (x:List AV):aI L (M.setEd x) (σ.put (L 14) (.t 14,.list x)):=q.upd 14 rfl (by decide) rfl rfl rfl
theorem aI.setFo (q:aI L M σ) (x:List AV):aI L (M.setFo x) (σ.put (L 15) (.t 15,.list x)):=q.upd 15 rfl (by decide) rfl rfl rfl
theorem aI.setWa (q:aI L M σ) (x:List Int):aI L (M.setWa x) (σ.put (L 18) (.t 18,.list (aS x))):=q.upd 18 rfl (by decide) rfl rfl rfl
theorem aI.setKn (q:aI L M σ) (x:List (cH×Int)):aI L (M.setKn x) (σ.put (L 16) (.t 16,.tdict (x.map λ p=>(p.1,.int p.2)))):=q.upd 16 rfl (by decide) rfl rfl rfl
theorem rM {L:HL} {M:HM} (x:List (Addr×List Int)) {i:Nat} (hi:i≠12):(eA L (M.setLots x))[i]? =(eA L M)[i]?:=by
 have:eA L (M.setLots x)=(eA L M).set 12 (.t 12,L 12,.list (x.map λ p=>.ref p.1)):=rfl
 rw[this,List.getElem?_set,if_neg (Ne.symm hi)]
theorem aI.newLot (q:aI L M σ) {D:Addr} (hD:σ D=none) (l:List Int):
  aI L (M.setLots (M.lots++[(D,l)])) ((σ.put D (.u 1 M.lots.length,.list (aS l))).put (L 12) (.t 12,.list ((M.lots++[(D,l)]).map λ p=>.ref p.1))):=by
 have q1:=q.new hD (.u 1 M.lots.length,.list (aS l))
 have lo:=q1.at 12
 have hlo:L 12≠D:=λ e=>by have:=q.at 12;rw[e,hD] at this;cases this
 refine ⟨λ i t a ao hi e=>?_,λ i a l' e=>?_,λ k a l' e=>aF.put_tag _ lo (q1.abv k a l' e) (dK rfl)⟩
 ·by_cases h12:i=12
  ·subst h12;cases e;exact aF.put_same ..
  ·have ht:=cW e
   dsimp only at ht
   subst ht
   rw[rM _ h12] at e
   exact aF.put_tag _ lo (q1.fix i _ a ao hi e) (by intro x;cases x;exact h12 rfl)
 ·change (M.lots++[(D,l)])[i]? =_ at e
  rcases Nat.lt_trichotomy i M.lots.length with hlt | rfl | hgt
  ·rw[List.getElem?_append_left hlt] at e
   exact aF.put_tag _ lo (q1.lot i a l' e) (dK rfl)
  ·rw[List.getElem?_append_right (Nat.le_refl _),Nat.sub_self] at e
   cases e
   rw[aF.put_ne _ _ (Ne.symm hlo)]
   exact aF.put_same ..
  ·rw[List.getElem?_eq_none (by rw[List.length_append];exact hgt)] at e;cases e
end
section
variable {c:Cx} {env:Env} {loc:aV} {σ:aF} {Φ:AV→aF→Prop}
noncomputable abbrev CO (c:Cx) (env:Env) (loc:aV) (id:String) (l:Addr) (Φ:AV→aF→Prop):List AV→aF→Prop:=λ as σ2=>WC c env loc σ2 (.builtin id) (.ref l::as) Φ
theorem cO {o:Expr} {name:Str} {apos pos:Pos} {args:List Expr} {l:Addr} {id:String} (hm:fP c σ (.ref l) name (.builtin id))
  (ho:∀Ψ:AV→aF→Prop,Ψ (.ref l) σ→WE c env loc σ o Ψ) (h:iG c env loc σ pos args (CO c env loc id l Φ))
  (hbase:attributeBase o name env (eval o env)=eval o env:=by with_unfolding_all rfl)
  (hfew:methodCallForm args.length (backTo pos (starEach args env)) []=true:=by rfl)
  (hline:(apos.endLine==pos.line)=true:=by rfl)
  (hp:(backTo pos (starEach args env)).any (·.1)=false:=by rfl):WE c env loc σ (.Call (.Attribute o name apos) args [] pos) Φ:=
 wV (ho _ ⟨.builtin id,hm,aK,h⟩) hbase hfew hline hp
theorem cN {l:Addr} {t:Tg} {xs:List AV} (hl:σ l=some (t,.list xs)):fP c σ (.ref l) z190 (.builtin "list.append"):=nK hl PySem.F.slot_list_append PySem.F.type_list_append
theorem xU {l:Addr} {t:Tg} {xs:List AV} (hl:σ l=some (t,.list xs)):fP c σ (.ref l) z205 (.builtin "list.extend"):=nK hl PySem.F.slot_list_extend PySem.F.type_list_extend
theorem Mc {l:Addr} {t:Tg} {xs:List AV} (hl:σ l=some (t,.list xs)):fP c σ (.ref l) z187 (.builtin "list.pop"):=nK hl PySem.F.slot_list_pop PySem.F.type_list_pop
theorem oS {l:Addr} {t:Tg} {xs:List (Int×AV)} (hl:σ l=some (t,.idict xs)):fP c σ (.ref l) z179 (.builtin "dict.get"):=uO hl PySem.F.slot_dict_get PySem.F.type_dict_get
theorem Ew {l:Addr} {t:Tg} {xs:List (Int×AV)} (hl:σ l=some (t,.idict xs)):fP c σ (.ref l) z187 (.builtin "dict.pop"):=uO hl PySem.F.slot_dict_pop PySem.F.type_dict_pop
theorem mJ {l:Addr} {t:Tg} {xs:List (cH×AV)} (hl:σ l=some (t,.tdict xs)):fP c σ (.ref l) z208 (.builtin "dict.setdefault"):=Ax hl PySem.F.slot_dict_setdefault PySem.F.type_dict_setdefault
end
section
variable {c:Cx} {σ:aF} {L:HL} {M:HM}
theorem Id {env:Env} {loc:aV} {nm:Str} {v:AV} {p pos:Pos} (q:aI L M σ) (h1:loc z23=some (.ref (L 5))) (h2:env.kindOf z23=some .local) (h3:(qH L).lookup nm=some v) (h4:([z126,z127,z128].contains nm)=true) (h5:v.handed=true)
  (h6:attributeBase (.Name z23 p) nm env (eval (.Name z23 p) env)=eval (.Name z23 p) env:=by with_unfolding_all rfl):∀Ψ:AV→aF→Prop,Ψ v σ→WE c env loc σ (.Attribute (.Name z23 p) nm pos) Ψ:=λ Ψ hΨ=>
 fO (q.at 5) (q.at 6) h3 (Bm (iD c.w) h4) h5 (aM h1 h2) hΨ h6
theorem sW {env:Env} {loc:aV} {nm:Str} {v:AV} {p pos:Pos} {Ψ:AV→aF→Prop} (q:aI L M σ) (h1:loc z23=some (.ref (L 5))) (h2:env.kindOf z23=some .local) (h3:(qH L).lookup nm=some v) (h4:([z126,z127,z128].contains nm)=true) (h5:v.handed=true) (hΨ:Ψ v σ)
  (h6:attributeBase (.Name z23 p) nm env (eval (.Name z23 p) env)=eval (.Name z23 p) env:=by with_unfolding_all rfl):WE c env loc σ (.Attribute (.Name z23 p) nm pos) Ψ:=Id q h1 h2 h3 h4 h5 h6 Ψ hΨ
theorem aN (l:List Int):(aS l).length=l.length:=List.length_map ..
theorem Hq (hn:1≤c.n) (q:aI L M σ) (hz:M.up.length≤1000) (hlo:M.lots.length=M.up.length) {Φ:AV→aF→Prop}
  (h:∀σ' D,fQ σ σ'→aI L ((M.setUp (M.up++[(M.up.length:Int)])).setLots (M.lots++[(D,[(M.up.length:Int)])])) σ'→Φ (.int (M.up.length:Nat)) σ'):gG c σ (.ref 309) [.ref (L 5)] Φ:=by
 refine (tM c.w).call hn rfl λ K=>aE (bA (cO (cN (q.at 11)) (Id q rfl rfl rfl rfl rfl) (aA (bP (cZ c.w) rfl aK (aA (sW q rfl rfl rfl rfl rfl (aB ?_)))))))
 have l1:=aN M.up
 refine bK (q.at 11) (by exact B5 hz l1) (aB (bR (q.at 11) (by exact B5 hz l1) ?_))
 have q1:=q.setUp (M.up++[(M.up.length:Int)])
 rw[show aS M.up++[AV.int ((aS M.up).length:Nat)]=aS (M.up++[(M.up.length:Int)]) by rw[l1,aS,aS,List.map_append];rfl]
 have l2:(M.lots.map λ p=>AV.ref p.1).length=M.up.length:=by rw[List.length_map,hlo]
 refine aE (bA (cO (cN (q1.at 12)) (Id q1 rfl rfl rfl rfl rfl) (aA (bV (.u 1 M.lots.length) (aA (bP (cZ c.w) rfl aK (aA (sW q1 rfl rfl rfl rfl rfl (aB (bK (q1.at 12) (Nat.le_trans (Nat.le_of_eq l2) (by exact Nat.le_trans ‹_› (Nat.le_of_ble_eq_true rfl))) (aB ⟨by simp,λ D hD=>?_⟩)))))))))))
 have hnat:((M.lots.map λ p=>AV.ref p.1).length:Int)=(M.up.length:Int):=by rw[l2]
 have q2:=q1.newLot hD [(M.up.length:Int)]
 have q2':=q1.new hD (.u 1 M.lots.length,.list (aS [(M.up.length:Int)]))
 rw[hnat]
 refine aB (bR (q2'.at 12) (Nat.le_trans (Nat.le_of_eq l2) (by exact Nat.le_trans ‹_› (Nat.le_of_ble_eq_true rfl))) ?_)
 rw[show (M.lots.map λ p=>AV.ref p.1)++[AV.ref D]=(M.lots++[(D,[(M.up.length:Int)])]).map λ p=>AV.ref p.1 by rw[List.map_append];rfl]
 refine aE (aR (aU (bP (cZ c.w) rfl aK (aA (sW q2 rfl rfl rfl rfl rfl (aB (bK (q2.at 11) (by rw[aN];show (M.up++[(M.up.length:Int)]).length≤_;rw[List.length_append,List.length_singleton];exact AE hz) (aY (nH ?_)))))))))
 refine ⟨_,rfl,?_⟩
 have e:((aS (M.up++[(M.up.length:Int)])).length:Int)-1=(M.up.length:Int):=by rw[aN,List.length_append,List.length_singleton];exact Ey
 show Φ (.int (((aS (M.up++[(M.up.length:Int)])).length:Int)-1)) _
 rw[e]
 refine h _ D ?_ q2
 exact (((fQ.refl σ).put (.inr ⟨_,_,rfl,q.at 11⟩)).put (.inl hD)).put (.inr ⟨_,_,rfl,q2'.at 12⟩)
end
theorem gX {l:List (Str×Addr)} {K:Frag} {C:Addr} (h:(l.all λ p=>iL K C p.1 p.2)=true) (i:Nat) {n:Str} {f:Addr} (hm:l[i]? =some (n,f)):iL K C n f=true:=List.all_eq_true.mp h (n,f) (List.mem_of_getElem? hm)
theorem iB (w:World):Ld (KK w) z180 (.builtin "sorted")=true:=by kernel_rfl
section
variable {c:Cx} {σ:aF} {L:HL} {M:HM}
theorem Ay (hn:2≤c.n) (q:aI L M σ) (hu:iH M.up) (hz:M.up.length≤1000) (hlo:M.lots.length=M.up.length) {a:Nat} (ha:a<M.up.length) (h64:∀(i:Nat) b l,M.up[i]? =some (i:Int)→M.lots[i]? =some (b,l)→l.length<64) {Φ:AV→aF→Prop}
  (h:∀σ' D r b l ns,fQ σ σ'→aI L M σ'→fG M.up a r→M.lots[r]? =some (b,l)→ns.Perm l→σ' D=some (.t 0,.list (aS ns))→Φ (.ref D) σ'):gG c σ (.ref 337) [.ref (L 5),.int a] Φ:=by
 refine (nS c.w).call (c1 hn) rfl λ K=>aE (aR (bP (iB c.w) rfl aK (aA (bF (sW q rfl rfl rfl rfl rfl ?_)))))
 refine bG (q.at 5) (q.at 6) rfl (gX (eE c.w) 0 rfl) (aM rfl rfl) (aA (aC rfl rfl (aB ?_)))
 refine pZ (c:=c.deep _) (cn hn) q hu hz ha λ r hr hr1 hf=>?_
 obtain ⟨⟨b,l⟩,hl⟩:∃p,M.lots[r]? =some p:=⟨M.lots[r]'(by exact Nat.lt_of_lt_of_eq ‹_› (Eq.symm ‹_›)),List.getElem?_eq_getElem (by exact Nat.lt_of_lt_of_eq ‹_› (Eq.symm ‹_›))⟩
 refine bC (q.at 12) (i:=r) (x:=.ref b) (by rw[List.getElem?_map,hl];rfl) (by exact uQ hz hr) (aB ?_)
 refine qG (.t 0) (q.lot r b l hl) (h64 r b l hr1 hl) λ D ns hD hp _=>⟨_,rfl,?_⟩
 exact h _ D r b l ns ((fQ.refl σ).put (.inl hD)) (q.new hD _) hf hl hp (aF.put_same ..)
end
theorem Dn {c:Cx} {env:Env} {loc:aV} {σ:aF} {ΦA:aV→aF→Prop} {elts:List Expr} {k:Nat} {pos:Pos} {as:List AV} {l:Addr} {t:Tg} (hl:σ l=some (t,.list as)) (h:J6 c env ΦA elts as loc σ) (hn:elts.length=as.length)
  (he:assignEach elts env=elts.map (λ t=>(false,assign t env)):=by rfl):WA c env loc σ (.Tuple elts k pos) (.ref l) ΦA:=λ ρ s v q hv=>by
 rw[VIs_ref] at hv;subst hv
 obtain ⟨items,n,h1,hvs⟩:=q.obj l t _ hl
 rw[assign_Tuple]
 refine wpAny_bind (wpAny_standAt ?_)
 unfold unpack
 have e1:(assignEach elts env).length=items.size:=by rw[he,List.length_map,hn,←hvs.length,Array.length_toList]
 have e3:(assignEach elts env).findIdx? (·.1)=none:=by
  rw[he];clear h hn he e1
  induction elts with
  | nil=>rfl
  | cons x r ih=>simp[List.findIdx?_cons]
 rw[e1,e3]
 refine wpAny_bind (wpAny_holding (kun_itemsOf q.base.hand ⟨_,h1,rfl,n,rfl⟩ λ h' hk=>?_))
 have:=q.moreBut (s':={s with heap:=h'}) rfl rfl (Nat.le_refl _) hk
 have e2:(assignEach elts env).map (·.2)=elts.map λ t=>assign t env:=by rw[he,List.map_map];rfl
 rw[e2]
 exact Lo (J6.run h ρ _ items.toList this.1 (hvs.ev this.2)) this.2
noncomputable def rootF (up:List Int):Nat→Nat→Nat
 | 0,a=>a
 | f+1,a=>if up[a]? =some (a:Int) then a else rootF up f (up.getD a 0).toNat
noncomputable def root (up:List Int) (a:Nat):Nat:=rootF up (a+1) a
theorem iH.lt {up:List Int} (hu:iH up) {a:Nat} {j:Int} (h:up[a]? =some j) (hj:j≠a):j.toNat<a:=by have:=hu a j h;exact Mu hj this
theorem fG.rootF {up:List Int} (hu:iH up) {a r:Nat} (h:fG up a r):∀f,a<f→rootF up f a=r:=by
 induction h with
 | @here a h=>
  intro f hf
  obtain ⟨f,rfl⟩:∃g,f=g+1:=⟨f-1,by exact Jn hf⟩
  rw[Mine.rootF,if_pos h]
 | @step a r j h hj _ ih=>
  intro f hf
  obtain ⟨f,rfl⟩:∃g,f=g+1:=⟨f-1,by exact Jn hf⟩
  have:=hu.lt h hj
  have e:up.getD a 0=j:=by rw[List.getD_eq_getElem?_getD,h];rfl
  rw[Mine.rootF,if_neg (by rw[h];simpa using hj),e]
  exact ih f (by exact Ro hf this)
theorem fG.root {up:List Int} (hu:iH up) {a r:Nat} (h:fG up a r):root up a=r:=h.rootF hu _ (Nat.lt_succ_self _)
noncomputable def HM.lot (M:HM) (i:Nat):List Int:=(M.lots.getD i (0,[])).2
noncomputable def HM.merge (M:HM) (kept gone:Nat):HM:=
 ((M.setUp (M.up.set gone kept)).setLots (M.lots.set kept ((M.lots.getD kept (0,[])).1,M.lot kept++M.lot gone))).setMg (M.merged++[.tup [.int kept,.int gone]])
section
variable {L:HL} {M:HM} {σ:aF}
theorem HM.lots_at {i:Nat} (hi:i<M.lots.length):M.lots[i]? =some ((M.lots.getD i (0,[])).1,M.lot i):=by
 unfold HM.lot
 rw[List.getD_eq_getElem?_getD,List.getElem?_eq_getElem hi];rfl
theorem aI.setLot (q:aI L M σ) {i:Nat} {a:Addr} {l:List Int} (hl:M.lots[i]? =some (a,l)) (x:List Int):aI L (M.setLots (M.lots.set i (a,x))) (σ.put a (.u 1 i,.list (aS x))):=by
 have hi:=(List.getElem?_eq_some_iff.mp hl).1
 have la:=q.lot i a l hl
 refine ⟨λ j t b ao hj e=>?_,λ j b l' e=>?_,λ k b l' e=>aF.put_tag _ la (q.abv k b l' e) (dK rfl)⟩
 ·have ht:=cW e
  dsimp only at ht
  subst ht
  refine aF.put_tag _ la (q.fix j _ b ao hj ?_) (dK rfl)
  rw[←e]
  by_cases h12:j=12
  ·subst h12
   show some ((Tg.t 12),L 12,AO.list (M.lots.map λ p=>.ref p.1))=some ((Tg.t 12),L 12,AO.list ((M.lots.set i (a,x)).map λ p=>.ref p.1))
   have:(M.lots.set i (a,x)).map (λ p=>AV.ref p.1)=M.lots.map λ p=>AV.ref p.1:=by
    rw[List.map_set]
    refine List.ext_getElem? λ k=>?_
    rw[List.getElem?_set,List.getElem?_map]
    split
    ·rename_i e2;subst e2;rw[hl];simp[hi]
    ·rfl
   rw[this]
  ·exact (rM (L:=L) (M:=M) _ h12).symm
 ·change (M.lots.set i (a,x))[j]? =_ at e
  rw[List.getElem?_set] at e
  split at e
  ·rename_i e2;subst e2
   simp only[Option.some.injEq,Prod.mk.injEq] at e
   obtain ⟨rfl,rfl⟩:=e
   exact aF.put_same ..
  ·rename_i e2
   exact aF.put_tag _ la (q.lot j b l' e) (by intro z;cases z;exact e2 rfl)
end
theorem Ai {ns:List Int} {r s:Int} (hp:ns.Perm [r,s]) (hs:ns.Pairwise (·≤ ·)):∃x y,ns=[x,y]∧x≤y∧(x=r∧y=s∨x=s∧y=r):=by
 match ns,hp.length_eq with
 | [x,y],_=>
  refine ⟨x,y,rfl,by simpa using hs,?_⟩
  have h1:x∈[r,s]:=hp.mem_iff.mp (by simp)
  have h2:y∈[r,s]:=hp.mem_iff.mp (by simp)
  have h3:r∈[x,y]:=hp.mem_iff.mpr (by simp)
  have h4:s∈[x,y]:=hp.mem_iff.mpr (by simp)
  simp only[List.mem_cons,List.not_mem_nil,or_false] at h1 h2 h3 h4
  exact O2 h1 h2 h3 h4
theorem gA {σ:aF} {a b:Addr} {t t':Tg} {o o':AO} (ha:σ a=some (t,o)) (hb:σ b=some (t',o')) (h:t≠t'):a≠b:=λ e=>by subst e;rw[ha] at hb;cases hb;exact h rfl
section
variable {c:Cx} {σ:aF} {L:HL} {M:HM}
theorem Et (hn:2≤c.n) (q:aI L M σ) (hu:iH M.up) (hz:M.up.length≤1000) (hlo:M.lots.length=M.up.length) (hmg:M.merged.length≤10000) (hlt:∀i:Nat,M.up[i]? =some (i:Int)→(M.lot i).length≤1000) {a b:Nat} (ha:a<M.up.length) (hb:b<M.up.length) {Φ:AV→aF→Prop}
  (hsame:∀σ',root M.up a=root M.up b→fQ σ σ'→aI L M σ'→Φ .none σ')
  (hdiff:∀σ' (kept gone:Nat),kept<gone→M.up[kept]? =some (kept:Int)→M.up[gone]? =some (gone:Int)→(kept=root M.up a∧gone=root M.up b∨kept=root M.up b∧gone=root M.up a)→fQ σ σ'→aI L (M.merge kept gone) σ'→Φ (.tup [.int kept,.int gone]) σ'):
  gG c σ (.ref 330) [.ref (L 5),.int a,.int b] Φ:=by
 refine (sA c.w).call (c1 hn) rfl λ K=>aE (aJ (bP (iB c.w) rfl aK (aA (bV (.t 0) ?_))))
 refine aA (bG (q.at 5) (q.at 6) rfl (gX (eE c.w) 0 rfl) (aM rfl rfl) (aA (aC rfl rfl (aB (pZ (c:=c.deep _) (cn hn) q hu hz ha λ r hr hr1 hr2=>?_)))))
 refine aA (bG (q.at 5) (q.at 6) rfl (gX (eE c.w) 0 rfl) (aM rfl rfl) (aA (aC rfl rfl (aB (pZ (c:=c.deep _) (cn hn) q hu hz hb λ s hs hs1 hs2=>?_)))))
 have er:=hr2.root hu
 have es:=hs2.root hu
 refine aB ⟨by simp,λ D hD=>aB ?_⟩
 refine qG (ns:=[(r:Int),(s:Int)]) (.t 0) (aF.put_same ..) (by simp) λ D2 ns hD2 hp hpw=>?_
 obtain ⟨x,y,rfl,hxy,hor⟩:=Ai hp hpw
 obtain ⟨kept,gone,rfl,rfl,hor⟩:∃k g:Nat,x=(k:Int)∧y=(g:Int)∧(k=r∧g=s∨k=s∧g=r):=by
  rcases hor with ⟨rfl,rfl⟩ | ⟨rfl,rfl⟩
  ·exact ⟨r,s,rfl,rfl,.inl ⟨rfl,rfl⟩⟩
  ·exact ⟨s,r,rfl,rfl,.inr ⟨rfl,rfl⟩⟩
 have hg:gone<M.up.length:=by exact Nx hr hs hor
 have hk:kept<M.up.length:=by exact Rf hxy hg
 have q2:=(q.new hD (.t 0,.list [.int r,.int s])).new hD2 (.t 0,.list (aS [(kept:Int),(gone:Int)]))
 refine Dn (aF.put_same ..) (bX rfl rfl (bX rfl rfl ?_)) rfl
 have E2:fQ σ _:=((fQ.refl σ).put (a:=D) (y:=(.t 0,.list [.int r,.int s])) (.inl hD)).put (a:=D2) (y:=(.t 0,.list (aS [(kept:Int),(gone:Int)]))) (.inl hD2)
 refine aE (eG (aT (aC rfl rfl (aC rfl rfl (qR ⟨_,rfl,?_⟩)))))
 by_cases e:kept=gone
 ·rw[show ((kept:Int)==(gone:Int))=true by simp[e],if_pos rfl]
  exact aE (aR (eP ⟨_,rfl,hsame _ (by exact Nm er es hor e) E2 q2⟩))
 rw[show ((kept:Int)==(gone:Int))=false by simp only[beq_eq_false_iff_ne];exact Fe e,if_neg (by simp)]
 refine aP (aE (aJ (aC rfl rfl (gU (sW q2 rfl rfl rfl rfl rfl (aC rfl rfl (uI (q2.at 11) (by rw[aN];exact hg) (by rw[aN];exact K4 hz) ?_)))))))
 have hset:(aS M.up).set gone (.int kept)=aS (M.up.set gone kept):=by rw[aS,aS,List.map_set]
 rw[hset]
 have q3:=q2.setUp (M.up.set gone kept)
 have E3:=E2.put (y:=(.t 11,.list (aS (M.up.set gone kept)))) (.inr ⟨_,_,rfl,q2.at 11⟩)
 have lk:=HM.lots_at (M:=M) (i:=kept) (by exact Nat.lt_of_lt_of_eq ‹_› (Eq.symm ‹_›))
 have lg:=HM.lots_at (M:=M) (i:=gone) (by exact Nat.lt_of_lt_of_eq ‹_› (Eq.symm ‹_›))
 have hne:kept≠gone:=e
 have hk0:M.up[kept]? =some (kept:Int):=by rcases (show kept=r∨kept=s by exact O0 hor) with h1 | h1<;>(rw[h1];assumption)
 have hg0:M.up[gone]? =some (gone:Int):=by rcases (show gone=r∨gone=s by exact Oz hor) with h1 | h1<;>(rw[h1];assumption)
 have hk1:=hlt kept hk0
 have hg1:=hlt gone hg0
 refine aE (bA (cO (xU (q3.lot kept _ _ lk)) (λ Ψ hΨ=>bF (sW q3 rfl rfl rfl rfl rfl (aC rfl rfl (bC (x:=.ref (M.lots.getD kept (0,[])).1) (q3.at 12) (by rw[List.getElem?_map];exact (congrArg _ lk).trans rfl) (by exact uQ hz hk) hΨ)))) ?_))
 refine aA (bF (sW q3 rfl rfl rfl rfl rfl (aC rfl rfl (bC (x:=.ref (M.lots.getD gone (0,[])).1) (q3.at 12) (by rw[List.getElem?_map];exact (congrArg _ lg).trans rfl) (by exact uQ hz hg) (aB ?_)))))
 refine uG (q3.lot kept _ _ lk) (q3.lot gone _ _ lg) (by rw[aN,aN];exact S7 hk1 hg1) ?_
 rw[show aS (M.lot kept)++aS (M.lot gone)=aS (M.lot kept++M.lot gone) by rw[aS,aS,aS,List.map_append]]
 have q4:=q3.setLot lk (M.lot kept++M.lot gone)
 have E4:=E3.put (y:=(.u 1 kept,.list (aS (M.lot kept++M.lot gone)))) (.inr ⟨_,_,rfl,q3.lot kept _ _ lk⟩)
 refine aE (bA (cO (cN (q4.at 13)) (Id q4 rfl rfl rfl rfl rfl) (aA (aZ (aA (aC rfl rfl (aA (aC rfl rfl (aB ⟨by simp,aB ?_⟩)))))))))
 refine bR (q4.at 13) (Nat.le_trans hmg (by exact Nat.le_add_left _ _)) ?_
 have q5:=q4.setMg (M.merged++[.tup [.int kept,.int gone]])
 have E5:=E4.put (y:=(.t 13,.list (M.merged++[.tup [.int kept,.int gone]]))) (.inr ⟨_,_,rfl,q4.at 13⟩)
 refine aE (aR (aZ (aA (aC rfl rfl (aA (aC rfl rfl (aB ⟨by simp,_,rfl,?_⟩)))))))
 exact hdiff _ kept gone (by exact Uz hxy hne) hk0 hg0 (by exact Nl er es hor) E5 q5
end
theorem cS (w:World):([(z107,422),(z78,396),(z138,443),(z108,436),(z136,415),(z43,450),(z110,464),(z109,471),(z140,476),(z142,495),(z135,401)].all λ p=>iL (KK w) 498 p.1 p.2)=true:=by kernel_rfl
theorem vV (w:World):([(z24,241),(z77,248),(z72,206),(z73,213)].all λ p=>iL (KK w) 284 p.1 p.2)=true:=by kernel_rfl
theorem cE (w:World) (i:Nat) {x:Str} {v:Value} (h:([(z186,Value.builtin "len"),(z180,.builtin "sorted"),(z176,.builtin "max"),(z177,.builtin "min"),(z178,.builtin "sum"),(z227,.builtin "abs"),(z185,.type "list"),(z198,.type "tuple"),(z207,.type "set"),(z206,.type "range"),(z215,.type "enumerate"),(z231,.type "str")])[i]? =some (x,v)):Ld (KK w) x v=true:=List.all_eq_true.mp (V8 w) (x,v) (List.mem_of_getElem? h)
structure gH (M:HM):Prop where
 up:iH M.up
 few:M.up.length≤40
 lots:M.lots.length=M.up.length
 nodes:M.nodes.length=M.up.length
 kids:∀(i:Nat) n,M.nodes[i]? =some n→n.2.length≤3∧∀k∈n.2,0≤k∧k<i
 lotR:∀i:Nat,M.up[i]? =some (i:Int)→(M.lot i).Nodup∧∀x:Int,x∈M.lot i↔∃a:Nat,a<M.up.length∧x=a∧root M.up a=i
 mg:(M.merged.length:Int)+M.up.sum≤1600
 fo:(M.forest.length:Int)+M.up.sum≤1600
 wa:(M.known.length:Int)+M.waiting.length+41*M.up.sum≤70000
 abk:∀i:Nat,M.up[i]? =some (i:Int)→∃a l,((i:Int),a,l)∈M.above
 abd:(M.above.map (·.1)).Nodup
 ab40:(M.above.map λ p=>p.2.2.length).sum≤40
 ups:0≤M.up.sum
 abn:M.above.length≤10000
theorem mG {α:Type} [BEq α] [LawfulBEq α]:∀{l s:List α},l.Nodup→(∀x∈l,x∈s)→l.length≤s.length
 | [],_,_,_=>Nat.zero_le _
 | x::r,s,hn,hs=>by
  rw[List.nodup_cons] at hn
  have hx:=hs x List.mem_cons_self
  have:=mG (l:=r) (s:=s.erase x) hn.2 λ y hy=>(List.mem_erase_of_ne (λ e=>hn.1 (by rw[←e];exact hy))).mpr (hs y (List.mem_cons_of_mem _ hy))
  rw[List.length_erase_of_mem hx] at this
  have hp:=List.length_pos_of_mem hx
  rw[List.length_cons]
  exact Sk this hp
theorem gH.lot40 {M:HM} (o:gH M) (i:Nat) (h:M.up[i]? =some (i:Int)):(M.lot i).length≤40:=by
 have:=mG (o.lotR i h).1 (s:=(List.range M.up.length).map λ a:Nat=>(a:Int)) λ x hx=>by
  obtain ⟨a,ha,rfl,_⟩:=((o.lotR i h).2 x).mp hx
  exact List.mem_map.mpr ⟨a,List.mem_range.mpr ha,rfl⟩
 rw[List.length_map,List.length_range] at this
 exact Nat.le_trans this o.few
theorem gH.z {M:HM} (o:gH M):M.up.length≤1000:=Nat.le_trans o.few (by decide)
noncomputable def HM.key (M:HM) (n:Str×List Int):cH:=cR (n.1,n.2.map λ k=>((root M.up k.toNat:Nat):Int))
theorem gI (n:Str×List Int):(cR n).av= .tup (.str n.1::aS n.2):=by
 unfold cR cH.av aS
 rw[List.map_cons,List.map_map];rfl
section
variable {c:Cx} {env:Env} {loc:aV} {σ:aF} {L:HL} {M:HM}
theorem jT {o:Expr} {nm:Str} {v:AV} {pos:Pos} (q:aI L M σ) (ho:∀Ψ:AV→aF→Prop,Ψ (.ref (L 1)) σ→WE c env loc σ o Ψ) (h3:(A8 L).lookup nm=some v) (h4:([z162,z166,z163,z164,z165,z126,z167,z59].contains nm)=true) (h5:v.handed=true)
  (h6:attributeBase o nm env (eval o env)=eval o env:=by with_unfolding_all rfl):∀Ψ:AV→aF→Prop,Ψ v σ→WE c env loc σ (.Attribute o nm pos) Ψ:=λ Ψ hΨ=>
 fO (q.at 1) (q.at 2) h3 (Bm (Lg c.w) h4) h5 ho hΨ h6
theorem kU {o:Expr} {nm:Str} {v:AV} {pos:Pos} {Ψ:AV→aF→Prop} (q:aI L M σ) (ho:∀Ψ:AV→aF→Prop,Ψ (.ref (L 1)) σ→WE c env loc σ o Ψ) (h3:(A8 L).lookup nm=some v) (h4:([z162,z166,z163,z164,z165,z126,z167,z59].contains nm)=true) (h5:v.handed=true) (hΨ:Ψ v σ)
  (h6:attributeBase o nm env (eval o env)=eval o env:=by with_unfolding_all rfl):WE c env loc σ (.Attribute o nm pos) Ψ:=jT q ho h3 h4 h5 h6 Ψ hΨ
theorem CI {o:Expr} {nm:Str} {v:AV} {pos:Pos} (q:aI L M σ) (ho:∀Ψ:AV→aF→Prop,Ψ (.ref (L 3)) σ→WE c env loc σ o Ψ) (h3:(Bi L).lookup nm=some v) (h4:(kD.contains nm)=true) (h5:v.handed=true)
  (h6:attributeBase o nm env (eval o env)=eval o env:=by with_unfolding_all rfl):∀Ψ:AV→aF→Prop,Ψ v σ→WE c env loc σ (.Attribute o nm pos) Ψ:=λ Ψ hΨ=>
 fO (q.at 3) (q.at 4) h3 (Bm (lS c.w) h4) h5 ho hΨ h6
theorem sX {o:Expr} {nm:Str} {v:AV} {pos:Pos} {Ψ:AV→aF→Prop} (q:aI L M σ) (ho:∀Ψ:AV→aF→Prop,Ψ (.ref (L 3)) σ→WE c env loc σ o Ψ) (h3:(Bi L).lookup nm=some v) (h4:(kD.contains nm)=true) (h5:v.handed=true) (hΨ:Ψ v σ)
  (h6:attributeBase o nm env (eval o env)=eval o env:=by with_unfolding_all rfl):WE c env loc σ (.Attribute o nm pos) Ψ:=CI q ho h3 h4 h5 h6 Ψ hΨ
theorem dH {x:Str} {pos:Pos} {av:AV} {a:Addr} (hv:loc x=some av) (hk:env.kindOf x=some .cell∨env.kindOf x=some .free) (ha:env.cells.lookup x=some a)
  (hd:(x==("__debug__":Str))=false:=by decide) (hn:(x==("__classdict__":Str))=false:=by decide):∀Ψ:AV→aF→Prop,Ψ av σ→WE c env loc σ (.Name x pos) Ψ:=λ _ h=>cG hv hk ha h hd hn
end
section
variable {c:Cx} {σ:aF} {L:HL} {M:HM} {Φ:AV→aF→Prop}
theorem fY (hn:2≤c.n) (q:aI L M σ) (hu:iH M.up) (hz:M.up.length≤1000) {a:Nat} (ha:a<M.up.length) (h:root M.up a<M.up.length→M.up[root M.up a]? =some ((root M.up a:Nat):Int)→Φ (.int (root M.up a)) σ):gG c σ (.ref 422) [.ref (L 1),.int a] Φ:=by
 refine (yX c.w).call (c1 hn) rfl λ K=>aE (aR (bG (q.at 5) (q.at 6) rfl (gX (eE c.w) 0 rfl) (jT q (aM rfl rfl) rfl rfl rfl) (aA (aC rfl rfl (aB ?_)))))
 refine pZ (c:=c.deep _) (cn hn) q hu hz ha λ r hr hr1 hr2=>⟨_,rfl,?_⟩
 have:=hr2.root hu
 subst this
 exact h hr hr1
theorem L8 (hn:1≤c.n) (q:aI L M σ) {i:Nat} {n:Str×List Int} (hi:M.nodes[i]? =some n) (hz:i<1000) (h:Φ (.str n.1) σ):gG c σ (.ref 241) [.ref (L 3),.int i] Φ:=by
 refine (Dj c.w).call hn rfl λ K=>aE (aR (bF (bF (sX q (aM rfl rfl) rfl rfl rfl (aC rfl rfl (bC (x:=(cR n).av) (q.at 7) (by rw[List.getElem?_map,hi];rfl) (by exact Nat.le_trans ‹_› (Nat.le_of_ble_eq_true rfl)) (aY ?_)))))))
 rw[gI]
 exact mM (i:=0) rfl ⟨_,rfl,h⟩
theorem Hx (hn:1≤c.n) (q:aI L M σ) {i:Nat} {n:Str×List Int} (hi:M.nodes[i]? =some n) (hz:i<1000) (h:Φ (.tup (aS n.2)) σ):gG c σ (.ref 248) [.ref (L 3),.int i] Φ:=by
 refine (yZ c.w).call hn rfl λ K=>aE (aR (gS (bF (sX q (aM rfl rfl) rfl rfl rfl (aC rfl rfl (bC (x:=(cR n).av) (q.at 7) (by rw[List.getElem?_map,hi];rfl) (by exact Nat.le_trans ‹_› (Nat.le_of_ble_eq_true rfl)) ?_))))))
 exact ⟨_,_,gI n,_,rfl,h⟩
theorem Bz (hn:3≤c.n) (q:aI L M σ) (o:gH M) {i:Nat} {n:Str×List Int} (hi:M.nodes[i]? =some n)
  (h:∀σ',fQ σ σ'→aI L M σ'→Φ (M.key n).av σ'):gG c σ (.ref 396) [.ref (L 1),.int i] Φ:=by
 have hlt:=(List.getElem?_eq_some_iff.mp hi).1
 have hf:=o.few
 have hno:=o.nodes
 obtain ⟨h3,hk⟩:=o.kids i n hi
 refine (yU c.w).call (c1 hn) rfl λ K=>aE (aR (aU (aZ (aA ?_))))
 refine bG (q.at 3) (q.at 4) rfl (gX (vV c.w) 0 rfl) (jT q (dH (a:=K+1) rfl (.inl rfl) rfl) rfl rfl rfl) (aA (aC rfl rfl (aB ?_)))
 refine L8 (c:=c.deep _) (cn hn) q hi (by exact I7 hlt hf hno) (aB ⟨by simp,?_⟩)
 refine bP (cE c.w 7 rfl) rfl bN (aA (bW (cl:=[(z23,K+1)]) (bY.of (by kernel_rfl) rfl (λ p hp=>hp) (List.pairwise_singleton _ _)) (.t 0) ?_))
 refine bG (q.at 3) (q.at 4) rfl (gX (vV c.w) 1 rfl) (jT q (dH (a:=K+1) rfl (.inl rfl) rfl) rfl rfl rfl) (aA (aC rfl rfl (aB ?_)))
 refine Hx (c:=c.deep _) (cn hn) q hi (by exact I7 hlt hf hno) ⟨_,_,dQ rfl,by rw[aN];exact vW h3,λ j acc σ'=>σ=σ'∧acc=aS ((n.2.take j).map λ k=>((root M.up k.toNat:Nat):Int)),⟨⟨rfl,rfl⟩,?_⟩,?_⟩
 ·rintro C j y acc _ hy ⟨rfl,rfl⟩
  rw[aS,List.getElem?_map] at hy
  obtain ⟨k,hk1,rfl⟩:=Option.map_eq_some_iff.mp hy
  obtain ⟨k0,k1⟩:=hk k (List.mem_of_getElem? hk1)
  obtain ⟨m,rfl⟩:=Int.eq_ofNat_of_zero_le k0
  refine bG (q.at 1) (q.at 2) rfl (gX (cS c.w) 0 rfl) (dH (a:=K+1) rfl (.inl rfl) rfl) (aA (aC (if_pos rfl) rfl (aB ?_)))
  refine fY (c:=c.deep _) (cn hn) q o.up o.z (by exact Ok hlt hno k1) λ _ _=>⟨rfl,?_⟩
  rw[List.take_add_one,hk1,List.map_append,aS,aS,List.map_append];rfl
 ·rintro acc _ D ⟨rfl,rfl⟩ hl hD
  rw[aN,List.take_length]
  refine aB (xH (aF.put_same ..) (by rw[aN,List.length_map];exact vW h3) (pU ⟨_,rfl,?_⟩ (by rw[aN,List.length_map];simp;exact K3 h3)))
  have:=h _ ((fQ.refl σ).put (y:=(.t 0,.list (aS (n.2.map λ k=>((root M.up k.toNat:Nat):Int))))) (.inl hD)) (q.new hD _)
  rw[HM.key,gI] at this
  exact this
end
noncomputable def eF (x:List (Int×Addr×List Int)):List (Int×AV):=x.map λ p=>(p.1,.ref p.2.1)
noncomputable def HM.ab (M:HM) (i:Int):Addr×List Int:=(M.above.lookup i).getD (0,[])
noncomputable def HM.joinAb (M:HM) (kept gone:Nat) (D:Addr):List (Int×Addr×List Int):=
 (M.above.filter λ p=>decide (p.1≠(gone:Int))).map λ p=>if p.1=(kept:Int) then (p.1,D,(M.ab kept).2++(M.ab gone).2) else p
noncomputable def HM.joined (M:HM) (kept gone:Nat) (D:Addr) (e:AV):HM:=
 ((((M.setEd (M.edges++[e])).merge kept gone).setFo (M.forest++[.int (M.edges.length:Int)])).setWa (M.waiting++(M.ab gone).2)).setAb (M.joinAb kept gone D)
theorem dG (a b:List Int):aS a++aS b=aS (a++b):=by rw[aS,aS,aS,List.map_append]
theorem fK {α:Type} {l:List (Int×α)} (hn:(l.map (·.1)).Nodup) {k:Int} {v:α} (h:(k,v)∈l):l.lookup k=some v:=dX (p:=(k,v)) hn h
theorem mN {α:Type} (f:α→AV) (l:List (Int×α)) (k:Int):gY (l.map λ p=>(p.1,f p.2)) k=(l.lookup k).map f:=by
 unfold gY
 induction l with
 | nil=>rfl
 | cons p r ih=>
  rw[List.map_cons,List.lookup_cons,List.find?_cons]
  by_cases e:p.1=k
  ·simp[e]
  ·have e2:(k==p.1)=false:=by simpa using λ z=>e z.symm
   have e3:decide (p.1=k)=false:=by simpa using e
   rw[e2,e3];exact ih
theorem kQ {l:List Nat} {x:Nat} (h:x∈l):x≤l.sum:=by
 induction l with
 | nil=>cases h
 | cons a r ih=>
  rw[List.sum_cons]
  rcases List.mem_cons.mp h with rfl | h
  ·exact Nat.le_add_right ..
  ·exact Nat.le_trans (ih h) (Nat.le_add_left ..)
section
variable {L:HL} {M:HM} {σ:aF}
theorem gH.ab (o:gH M) {i:Nat} (h:M.up[i]? =some (i:Int)):((i:Int),(M.ab i).1,(M.ab i).2)∈M.above∧M.above.lookup (i:Int)=some (M.ab i)∧(M.ab i).2.length≤40:=by
 obtain ⟨a,l,hm⟩:=o.abk i h
 have e:=fK o.abd hm
 have e2:M.ab i=(a,l):=by unfold HM.ab;rw[e];rfl
 rw[e2]
 exact ⟨hm,e,Nat.le_trans (kQ (List.mem_map.mpr ⟨_,hm,rfl⟩)) o.ab40⟩
theorem aI.setAb (q:aI L M σ) (x:List (Int×Addr×List Int)) (hx:∀(k:Nat) a l,((k:Int),a,l)∈x→σ a=some (.u 2 k,.list (aS l))):aI L (M.setAb x) (σ.put (L 17) (.t 17,.idict (eF x))) where
 fix:=λ j t b bo hj e=>by
  have h':eA L (M.setAb x)=(eA L M).set 17 (.t 17,L 17,.idict (eF x)):=rfl
  rw[h',List.getElem?_set] at e
  by_cases hij:17=j
  ·subst hij;cases e;exact aF.put_same ..
  ·rw[if_neg hij] at e
   have:=cW e
   dsimp only at this
   subst this
   exact aF.put_tag _ (q.at 17) (q.fix j _ _ _ hj e) (by intro x;cases x;exact hij rfl)
 lot:=λ j b l e=>by have h:=q.at 17;exact aF.put_tag _ h (q.lot j b l e) (dK rfl)
 abv:=λ k b l e=>by have h:=q.at 17;exact aF.put_tag _ h (hx k b l e) (dK rfl)
end
section
variable {c:Cx} {σ:aF} {L:HL} {M:HM} {Φ:AV→aF→Prop}
theorem eS {env:Env} {loc:aV} {σ:aF} {d:Addr} {t:Tg} {es es':List (Int×AV)} {k:Int} {x:AV} {Φ:aV→aF→Prop} (hd:σ d=some (t,.idict es)) (hz:es.length≤10000000) (he:pE es k x=es') (h:Φ loc (σ.put d (t,.idict es'))):Gn c env loc σ (.ref d) (.int k) x Φ:=by
 subst he;exact C1 hd hz h
theorem B9 (hn:3≤c.n) (q:aI L M σ) (o:gH M) (hed:M.edges.length≤100000) {a b:Nat} (ha:a<M.up.length) (hb:b<M.up.length) {w:List AV}
  (hsame:∀σ',root M.up a=root M.up b→fQ σ σ'→aI L (M.setEd (M.edges++[.tup [.int a,.int b,.tup w]])) σ'→Φ (.bool false) σ')
  (hdiff:∀σ' D (kept gone:Nat),kept<gone→M.up[kept]? =some (kept:Int)→M.up[gone]? =some (gone:Int)→(kept=root M.up a∧gone=root M.up b∨kept=root M.up b∧gone=root M.up a)→fQ σ σ'→
   aI L (M.joined kept gone D (.tup [.int a,.int b,.tup w])) σ'→Φ (.bool true) σ'):gG c σ (.ref 443) [.ref (L 1),.int a,.int b,.tup w] Φ:=by
 have hups:=o.ups
 have hmg:=o.mg
 have hfo:=o.fo
 have hwa:(M.waiting.length:Int)+41*M.up.sum≤70000:=Int.le_trans (by exact Nd) o.wa
 refine (yV c.w).call (c1 hn) rfl λ K=>aE (bA (cO (cN (q.at 14)) (jT q (aM rfl rfl) rfl rfl rfl) (aA (aZ (aA (aC rfl rfl (aA (aC rfl rfl (aA (aC rfl rfl (aB ⟨by simp,aB ?_⟩)))))))))))
 refine bR (q.at 14) (Nat.le_trans hed (by decide)) ?_
 have q1:=q.setEd (M.edges++[.tup [.int a,.int b,.tup w]])
 have E1:=(fQ.refl σ).put (y:=(.t 14,.list (M.edges++[.tup [.int a,.int b,.tup w]]))) (.inr ⟨_,_,rfl,q.at 14⟩)
 refine aE (aJ (bG (q1.at 5) (q1.at 6) rfl (gX (eE c.w) 3 rfl) (jT q1 (aM rfl rfl) rfl rfl rfl) (aA (aC rfl rfl (aA (aC rfl rfl (aB ?_)))))))
 refine Et (c:=c.deep _) (cn hn) q1 o.up o.z o.lots (show M.merged.length≤10000 by exact Nb hups hmg) (λ i hi=>Nat.le_trans (o.lot40 i hi) (by decide)) ha hb (λ σ' hr e1 q'=>?_) (λ σ' kept gone hlt hk hg hor e1 q'=>?_)
 ·refine bX rfl rfl (aE (eG (aT (aC rfl rfl (eP (uN ⟨_,rfl,?_⟩ nofun))))))
  rw[if_pos (by rfl)]
  exact aE (aR (fC ⟨_,rfl,hsame _ hr (E1.trans e1) q'⟩))
 refine bX rfl rfl (aE (eG (aT (aC rfl rfl (eP (uN ⟨_,rfl,?_⟩ nofun))))))
 rw[if_neg (by simp[AV.isNone])]
 have E2:=E1.trans e1
 refine aP (aE (aJ (aC rfl rfl (cX (bX rfl rfl (bX rfl rfl ?_)) rfl))))
 have l0:(M.edges++[AV.tup [.int a,.int b,.tup w]]).length=M.edges.length+1:=by rw[List.length_append];rfl
 refine aE (bA (cO (cN (q'.at 15)) (jT q' (aM rfl rfl) rfl rfl rfl) (aA (aU (bP (cZ c.w) rfl aK (aA (kU q' (aM rfl rfl) rfl rfl rfl (aB (bK (q'.at 14) (Nat.le_trans (Nat.le_of_eq l0) (by exact Nat.lt_of_le_of_lt ‹_› (Nat.le_of_ble_eq_true rfl))) (aY (nH (aB ?_))))))))))))
 refine bR (q'.at 15) (show M.forest.length≤10000000 by exact Na hups hfo) ?_
 rw[show (((M.edges++[AV.tup [.int a,.int b,.tup w]]).length:Nat):Int)-1=(M.edges.length:Int) by rw[l0];exact Ey]
 have q2:=q'.setFo (M.forest++[.int (M.edges.length:Int)])
 have E3:=E2.put (y:=(.t 15,.list (M.forest++[.int (M.edges.length:Int)]))) (.inr ⟨_,_,rfl,q'.at 15⟩)
 obtain ⟨k1,k2,k3⟩:=o.ab hk
 obtain ⟨g1,g2,g3⟩:=o.ab hg
 have ik:gY (eF M.above) (kept:Int)=some (.ref (M.ab kept).1):=by unfold eF;rw[mN (λ p:Addr×List Int=>AV.ref p.1),k2];rfl
 have ig:gY (eF M.above) (gone:Int)=some (.ref (M.ab gone).1):=by unfold eF;rw[mN (λ p:Addr×List Int=>AV.ref p.1),g2];rfl
 refine aE (bA (cO (xU (q2.at 18)) (jT q2 (aM rfl rfl) rfl rfl rfl) (aA (bF (kU q2 (aM rfl rfl) rfl rfl rfl (aC rfl rfl (fN (q2.at 17) ig (aB ?_))))))))
 refine uG (q2.at 18) (q2.abv gone _ _ g1) (by rw[aN,aN];show M.waiting.length+(M.ab gone).2.length≤10000000;exact Mr hups hwa g3) ?_
 rw[dG]
 have q3:=q2.setWa (M.waiting++(M.ab gone).2)
 have E4:=E3.put (y:=(.t 18,.list (aS (M.waiting++(M.ab gone).2)))) (.inr ⟨_,_,rfl,q2.at 18⟩)
 have ln:(eF M.above).length≤10000000:=Nat.le_trans (Nat.le_of_eq (List.length_map ..)) (Nat.le_trans o.abn (by decide))
 refine aE (aJ (aU (bF (kU q3 (aM rfl rfl) rfl rfl rfl (aC rfl rfl (fN (q3.at 17) ik ?_))))))
 refine cO (Ew (q3.at 17)) (jT q3 (aM rfl rfl) rfl rfl rfl) (aA (aC rfl rfl (aB (Br (q3.at 17) ln ig ?_))))
 have eid:A7 (eF M.above) (gone:Int)=eF (M.above.filter λ p=>decide (p.1≠(gone:Int))):=by
  unfold A7 eF;rw[List.filter_map];rfl
 rw[eid]
 have q4:=q3.setAb (M.above.filter λ p=>decide (p.1≠(gone:Int))) λ k a l hm=>q3.abv k a l (List.mem_filter.mp hm).1
 have E5:=E4.put (y:=(.t 17,.idict (eF (M.above.filter λ p=>decide (p.1≠(gone:Int)))))) (.inr ⟨_,_,rfl,q3.at 17⟩)
 have h17:=q3.at 17
 have kk:=aF.put_tag (.t 17,.idict (eF (M.above.filter λ p=>decide (p.1≠(gone:Int))))) h17 (q3.abv kept _ _ k1) (dK rfl)
 have gg:=aF.put_tag (.t 17,.idict (eF (M.above.filter λ p=>decide (p.1≠(gone:Int))))) h17 (q3.abv gone _ _ g1) (dK rfl)
 refine mF (.u 2 kept) kk gg (Nat.le_trans (Nat.add_le_add (Nat.le_trans (Nat.le_of_eq (aN _)) k3) (Nat.le_trans (Nat.le_of_eq (aN _)) g3)) (by decide)) λ D hD=>?_
 rw[dG]
 have q5:=q4.new hD (.u 2 kept,.list (aS ((M.ab kept).2++(M.ab gone).2)))
 have E6:=E5.put (a:=D) (y:=(.u 2 kept,.list (aS ((M.ab kept).2++(M.ab gone).2)))) (.inl hD)
 have hne:(kept:Int)≠(gone:Int):=by exact xY hlt
 have hany:(eF (M.above.filter λ p=>decide (p.1≠(gone:Int)))).any (λ e=>decide (e.1=(kept:Int)))=true:=
  List.any_eq_true.mpr ⟨((kept:Int),.ref (M.ab kept).1),List.mem_map.mpr ⟨_,List.mem_filter.mpr ⟨k1,by simpa using hne⟩,rfl⟩,by simp⟩
 have eput:pE (eF (M.above.filter λ p=>decide (p.1≠(gone:Int)))) (kept:Int) (.ref D)=eF (M.joinAb kept gone D):=by
  unfold pE
  rw[if_pos hany]
  unfold eF HM.joinAb
  rw[List.map_map,List.map_map]
  refine List.map_congr_left λ p _=>?_
  show (if p.1=(kept:Int) then (p.1,AV.ref D) else (p.1,AV.ref p.2.1))=_
  show _=((if p.1=(kept:Int) then (p.1,D,(M.ab kept).2++(M.ab gone).2) else p).1,AV.ref (if p.1=(kept:Int) then (p.1,D,(M.ab kept).2++(M.ab gone).2) else p).2.1)
  split<;>rfl
 refine gU (kU q5 (aM rfl rfl) rfl rfl rfl (aC rfl rfl (eS (q5.at 17) (Nat.le_trans (Nat.le_of_eq (List.length_map ..)) (Nat.le_trans (List.length_filter_le ..) (Nat.le_trans o.abn (by decide)))) eput ?_)))
 have q6:=q5.setAb (M.joinAb kept gone D) λ k a l hm=>by
  obtain ⟨p,hp,e⟩:=List.mem_map.mp hm
  by_cases hk:p.1=(kept:Int)
  ·rw[if_pos hk] at e
   simp only[Prod.mk.injEq] at e
   obtain ⟨e1,rfl,rfl⟩:=e
   obtain rfl:k=kept:=by exact Iv hk e1
   exact aF.put_same ..
  ·rw[if_neg hk] at e
   subst e
   exact q5.abv k a l hp
 have E7:=E6.put (y:=(.t 17,.idict (eF (M.joinAb kept gone D)))) (.inr ⟨_,_,rfl,q5.at 17⟩)
 exact aE (aR (fC ⟨_,rfl,hdiff _ D kept gone hlt hk hg hor E7 q6⟩))
end
noncomputable abbrev iT:=List (Str×List Int)
noncomputable def qS (ns:iT) (i:Nat):Str:=(ns.getD i (⟨#[]⟩,[])).1
noncomputable def aL (ns:iT) (i:Nat):List Nat:=(ns.getD i (⟨#[]⟩,[])).2.map Int.toNat
structure Cn (ns:iT) (pr:List (Nat×Nat)) (e:Nat→Nat):Prop where
 pr:∀p∈pr,e p.1=e p.2
 cg:∀n m,n<ns.length→m<ns.length→qS ns n=qS ns m→(aL ns n).map e=(aL ns m).map e→e n=e m
structure Ka (ns:iT) (pr:List (Nat×Nat)) (r:Nat→Nat):Prop where
 clo:Cn ns pr r
 le:∀a,a<ns.length→r a≤a
 sd:∀e,Cn ns pr e→∀a,a<ns.length→e (r a)=e a
theorem Ka.leq {ns:iT} {pr:List (Nat×Nat)} {r r':Nat→Nat} (x:Ka ns pr r) (y:Ka ns pr r') {a:Nat} (ha:a<ns.length):r' a≤r a:=by
 have h1:=x.sd r' y.clo a ha
 have h2:=y.le (r a) (Nat.lt_of_le_of_lt (x.le a ha) ha)
 exact h1▸h2
theorem Ka.uniq {ns:iT} {pr:List (Nat×Nat)} {r r':Nat→Nat} (x:Ka ns pr r) (y:Ka ns pr r') {a:Nat} (ha:a<ns.length):r a=r' a:=
 Nat.le_antisymm (y.leq x ha) (x.leq y ha)
noncomputable def Wj (z:Bool) (l:List Nat):Nat:=if z then l.sum else l.foldr max 0
noncomputable def val (z:Bool):List (Option Nat)→Option Nat
 | []=>some 0
 | o::r=>match o,val z r with
  | some v,some x=>some (if z then v+x else max v x)
  | _,_=>none
theorem mA {z:Bool} {o:Option Nat} {r:List (Option Nat)} {x:Nat} (h:val z (o::r)=some x):∃v y,o=some v∧val z r=some y∧x=if z then v+y else max v y:=by
 unfold val at h
 cases o with
 | none=>cases h
 | some v=>cases e:val z r with
  | none=>rw[e] at h;cases h
  | some y=>rw[e] at h;cases h;exact ⟨v,y,rfl,rfl,rfl⟩
theorem Ed {z:Bool} {f g:Nat→Option Nat} (h:∀k v,f k=some v→∃u,u≤v∧g k=some u):∀{ks:List Nat} {x:Nat},val z (ks.map f)=some x→∃y,y≤x∧val z (ks.map g)=some y:=by
 intro ks
 induction ks with
 | nil=>intro x e;exact ⟨x,Nat.le_refl _,e⟩
 | cons k r ih=>
  intro x e
  obtain ⟨v,y,h1,h2,rfl⟩:=mA e
  obtain ⟨u,hu,hg⟩:=h k v h1
  obtain ⟨w,hw,hr⟩:=ih h2
  refine ⟨if z then u+w else max u w,?_,by show val z (g k::r.map g)=_;unfold val;rw[hg,hr]⟩
  cases z
  ·exact Nat.max_le.mpr ⟨Nat.le_trans hu (Nat.le_max_left ..),Nat.le_trans hw (Nat.le_max_right ..)⟩
  ·exact Nat.add_le_add hu hw
theorem G9 {z:Bool} {f:Nat→Option Nat}:∀{ks:List Nat} {x:Nat},val z (ks.map f)=some x→∀k∈ks,∃v,v≤x∧f k=some v:=by
 intro ks
 induction ks with
 | nil=>intro x _ k hk;cases hk
 | cons k r ih=>
  intro x e j hj
  obtain ⟨v,y,h1,h2,rfl⟩:=mA e
  have hv:v≤(if z then v+y else max v y)∧y≤(if z then v+y else max v y):=by
   cases z
   ·exact ⟨Nat.le_max_left ..,Nat.le_max_right ..⟩
   ·exact ⟨Nat.le_add_right ..,Nat.le_add_left ..⟩
  rcases List.mem_cons.mp hj with rfl | hj
  ·exact ⟨v,hv.1,h1⟩
  ·obtain ⟨u,hu,he⟩:=ih h2 j hj
   exact ⟨u,Nat.le_trans hu hv.2,he⟩
theorem Ha {z:Bool} {f:Nat→Option Nat}:∀{ks:List Nat},(∀k∈ks,∃v,f k=some v)→∃x,val z (ks.map f)=some x:=by
 intro ks
 induction ks with
 | nil=>intro _;exact ⟨0,rfl⟩
 | cons k r ih=>
  intro h
  obtain ⟨v,hv⟩:=h k List.mem_cons_self
  obtain ⟨x,hx⟩:=ih λ j hj=>h j (List.mem_cons_of_mem _ hj)
  exact ⟨_,by show val z (f k::r.map f)=_;unfold val;rw[hv,hx]⟩
noncomputable def nB (ns:iT) (z:Bool) (r:Nat→Nat) (f:Nat→Option Nat) (n:Nat):Option Nat:=(val z ((aL ns n).map λ k=>f (r k))).map (· +1)
noncomputable def Gq (f g:Nat→Option Nat):Prop:=∀c v,f c=some v→∃u,u≤v∧g c=some u
noncomputable def G1 (ns:iT) (z:Bool) (r:Nat→Nat) (f:Nat→Option Nat):Prop:=∀c v,f c=some v→∃n x,n<ns.length∧r n=c∧nB ns z r f n=some x∧x≤v
noncomputable def Gz (ns:iT) (z:Bool) (r:Nat→Nat) (f:Nat→Option Nat):Prop:=∀n x,n<ns.length→nB ns z r f n=some x→∃v,v≤x∧f (r n)=some v
theorem jU {ns:iT} {z:Bool} {r:Nat→Nat} {f:Nat→Option Nat} {n x:Nat} (h:nB ns z r f n=some x):∃y,val z ((aL ns n).map λ k=>f (r k))=some y∧x=y+1:=by
 obtain ⟨y,h1,h2⟩:=Option.map_eq_some_iff.mp h
 exact ⟨y,h1,h2.symm⟩
theorem vG {ns:iT} {z:Bool} {r:Nat→Nat} {f g:Nat→Option Nat} (h:Gq f g) {n x:Nat} (e:nB ns z r f n=some x):∃y,y≤x∧nB ns z r g n=some y:=by
 obtain ⟨y,h1,rfl⟩:=jU e
 obtain ⟨u,h2,h3⟩:=Ed (f:=λ k=>f (r k)) (g:=λ k=>g (r k)) (λ k v hv=>h (r k) v hv) h1
 exact ⟨u+1,Nat.succ_le_succ h2,by unfold nB;rw[h3];rfl⟩
theorem qX {ns:iT} {z:Bool} {r:Nat→Nat} {f g:Nat→Option Nat} (J:G1 ns z r f) (S:Gz ns z r g):∀(b c v:Nat),v≤b→f c=some v→∃u,u≤v∧g c=some u:=by
 intro b
 induction b with
 | zero=>
  intro c v hv e
  obtain ⟨n,x,_,_,h3,h4⟩:=J c v e
  obtain ⟨y,_,rfl⟩:=jU h3
  exact absurd (Nat.le_trans h4 hv) (Nat.not_succ_le_zero _)
 | succ b ih=>
  intro c v hv e
  obtain ⟨n,x,h1,h2,h3,h4⟩:=J c v e
  obtain ⟨y,h5,rfl⟩:=jU h3
  have hyb:y≤b:=Nat.le_of_succ_le_succ (Nat.le_trans h4 hv)
  have key:∃u,u≤y∧val z ((aL ns n).map λ k=>g (r k))=some u:=by
   have hm:=G9 h5
   have:∀{ks:List Nat} {y:Nat},val z (ks.map λ k=>f (r k))=some y→(∀k∈ks,∃v,v≤b∧f (r k)=some v)→∃u,u≤y∧val z (ks.map λ k=>g (r k))=some u:=by
    intro ks
    induction ks with
    | nil=>intro y e _;exact ⟨y,Nat.le_refl _,e⟩
    | cons k t iht=>
     intro y e hk
     obtain ⟨v,y',h6,h7,rfl⟩:=mA e
     obtain ⟨v',h8,h9⟩:=hk k List.mem_cons_self
     obtain rfl:v'=v:=Option.some.inj (h9.symm.trans h6)
     obtain ⟨u,hu,hg⟩:=ih (r k) v' h8 h9
     obtain ⟨w,hw,hr⟩:=iht h7 λ j hj=>hk j (List.mem_cons_of_mem _ hj)
     refine ⟨if z then u+w else max u w,?_,by show val z (g (r k)::t.map λ k=>g (r k))=_;unfold val;rw[hg,hr]⟩
     cases z
     ·exact Nat.max_le.mpr ⟨Nat.le_trans hu (Nat.le_max_left ..),Nat.le_trans hw (Nat.le_max_right ..)⟩
     ·exact Nat.add_le_add hu hw
   exact this h5 λ k hk=>let ⟨v,h6,h7⟩:=hm k hk;⟨v,Nat.le_trans h6 hyb,h7⟩
  obtain ⟨u,hu,hg⟩:=key
  obtain ⟨w,hw,hw2⟩:=S n (u+1) h1 (by unfold nB;rw[hg];rfl)
  rw[h2] at hw2
  exact ⟨w,Nat.le_trans hw (Nat.le_trans (Nat.succ_le_succ hu) h4),hw2⟩
theorem qW {ns:iT} {z:Bool} {r:Nat→Nat} {f g:Nat→Option Nat} (J:G1 ns z r f) (S:Gz ns z r f) (J':G1 ns z r g) (S':Gz ns z r g) (c:Nat):f c=g c:=by
 cases e:f c with
 | some v=>
  obtain ⟨u,hu,hg⟩:=qX J S' v c v (Nat.le_refl _) e
  obtain ⟨w,hw,hf⟩:=qX J' S u c u (Nat.le_refl _) hg
  obtain rfl:v=w:=Option.some.inj (e.symm.trans hf)
  rw[hg,Nat.le_antisymm hw hu]
 | none=>cases e':g c with
  | none=>rfl
  | some u=>
   obtain ⟨w,hw,hf⟩:=qX J' S u c u (Nat.le_refl _) e'
   rw[e] at hf;cases hf
section
variable {up:List Int}
theorem fG.total (hu:iH up):∀(b a:Nat),a≤b→a<up.length→∃r,fG up a r∧r≤a∧up[r]? =some (r:Int)
 | b,a,hb,ha=>by
  have e:=List.getElem?_eq_getElem ha
  by_cases h:up[a]=(a:Int)
  ·rw[h] at e;exact ⟨a,.here e,Nat.le_refl _,e⟩
  ·have hl:=hu.lt e h
   match b,hb with
   | 0,hb=>exact absurd hl (by exact Va hb)
   | b+1,hb=>
    obtain ⟨r,h1,h2,h3⟩:=fG.total hu b up[a].toNat (by exact Mo hl hb) (by exact Nat.lt_trans ‹_› ‹_›)
    exact ⟨r,.step e h h1,by exact Mn hl h2,h3⟩
theorem dW (hu:iH up) {a:Nat} (ha:a<up.length):fG up a (root up a)∧root up a≤a∧up[root up a]? =some ((root up a:Nat):Int):=by
 obtain ⟨r,h1,h2,h3⟩:=fG.total hu a a (Nat.le_refl _) ha
 rw[h1.root hu]
 exact ⟨h1,h2,h3⟩
theorem hZ (hu:iH up) {i:Nat} (h:up[i]? =some (i:Int)):root up i=i:=(fG.here h).root hu
theorem iH.set (hu:iH up) {k g:Nat} (hkg:k<g):iH (up.set g k):=λ i j h=>by
 rw[List.getElem?_set] at h
 by_cases e:g=i
 ·subst e
  rw[if_pos rfl] at h
  split at h
  ·cases h;exact Tu hkg
  ·cases h
 ·rw[if_neg e] at h;exact hu i j h
theorem hY (hu:iH up) {k g:Nat} (hkg:k<g) (hk:up[k]? =some (k:Int)) (hg:up[g]? =some (g:Int)) {a:Nat} (ha:a<up.length):root (up.set g k) a=if root up a=g then k else root up a:=by
 have hgl:=(List.getElem?_eq_some_iff.mp hg).1
 have hk':(up.set g k)[k]? =some (k:Int):=by rw[List.getElem?_set,if_neg (Nat.ne_of_gt hkg)];exact hk
 refine fG.root (hu.set hkg) ?_
 have:=(dW hu ha).1
 revert this
 generalize root up a=r
 intro h
 induction h with
 | @here b hb=>
  by_cases e:b=g
  ·subst e
   rw[if_pos rfl]
   refine .step (j:=(k:Int)) (by rw[List.getElem?_set,if_pos rfl,if_pos hgl]) (by exact xY hkg) ?_
   rw[Int.toNat_natCast]
   exact .here hk'
  ·rw[if_neg e]
   exact .here (by rw[List.getElem?_set,if_neg (Ne.symm e)];exact hb)
 | @step b r j hb hj _ ih=>
  have e:g≠b:=λ e=>by subst e;rw[hg] at hb;cases hb;exact hj rfl
  exact .step (by rw[List.getElem?_set,if_neg e];exact hb) hj (ih (Nat.lt_trans (hu.lt hb hj) (List.getElem?_eq_some_iff.mp hb).1))
theorem jF (hu:iH up) {k g:Nat} (hkg:k<g) (hk:up[k]? =some (k:Int)) {i:Nat} (h:(up.set g k)[i]? =some (i:Int)):i≠g∧up[i]? =some (i:Int):=by
 rw[List.getElem?_set] at h
 by_cases e:g=i
 ·subst e
  rw[if_pos rfl] at h
  split at h
  ·simp only[Option.some.injEq] at h;omega
  ·cases h
 ·rw[if_neg e] at h;exact ⟨Ne.symm e,h⟩
end
theorem Bt:∀{l:List Int} {i:Nat} {x y:Int},l[i]? =some y→(l.set i x).sum=l.sum-y+x
 | [],_,_,_,h=>by simp at h
 | a::r,0,x,y,h=>by
  simp only[List.getElem?_cons_zero,Option.some.injEq] at h
  subst h
  rw[List.set_cons_zero,List.sum_cons,List.sum_cons];exact Ri
 | a::r,i+1,x,y,h=>by
  rw[List.set_cons_succ,List.sum_cons,List.sum_cons,Bt (l:=r) (by simpa using h)];exact O1
theorem Ef:∀{l:List Int},(∀x∈l,0≤x)→0≤l.sum
 | [],_=>Int.le_refl _
 | a::r,h=>by
  rw[List.sum_cons]
  have:=Ef (l:=r) λ x hx=>h x (List.mem_cons_of_mem _ hx)
  have:=h a List.mem_cons_self
  exact U5 ‹_› this
theorem iH.nn {up:List Int} (hu:iH up):0≤up.sum:=Ef λ x hx=>by
 obtain ⟨i,hi,e⟩:=List.mem_iff_getElem.mp hx
 exact (hu i x (by rw[←e];exact List.getElem?_eq_getElem hi)).1
noncomputable abbrev Co:=List (Int×Addr×List Int)
noncomputable def tot (x:Co):Nat:=(x.map λ p=>p.2.2.length).sum
theorem jE (p:Int×Addr×List Int) (r:Co):tot (p::r)=p.2.2.length+tot r:=rfl
theorem qK {k:Int}:∀{x:Co} {v:Addr×List Int},(x.map (·.1)).Nodup→(k,v)∈x→tot (x.filter λ p=>decide (p.1≠k))+v.2.length=tot x
 | [],_,_,h=>by cases h
 | p::r,v,hn,h=>by
  rw[List.map_cons,List.nodup_cons] at hn
  by_cases e:p.1=k
  ·have hr:(r.filter λ p=>decide (p.1≠k))=r:=List.filter_eq_self.mpr λ q hq=>by
    rw[decide_eq_true_eq]
    rintro rfl
    exact hn.1 (List.mem_map.mpr ⟨q,hq,e.symm⟩)
   have hv:p=(k,v):=by
    rcases List.mem_cons.mp h with h | h
    ·exact h.symm
    ·exact absurd (List.mem_map.mpr ⟨_,h,rfl⟩) (e▸hn.1)
   rw[List.filter_cons,if_neg (by simpa using e),hr,jE,hv];exact Nat.add_comm ..
  ·rw[List.filter_cons,if_pos (by simpa using e),jE,jE]
   have h':(k,v)∈r:=(List.mem_cons.mp h).resolve_left λ z=>e (by rw[←z])
   have:=qK hn.2 h'
   exact Ov this
theorem vN {k:Int} {D:Addr} {y:List Int}:∀{x:Co} {v:Addr×List Int},(x.map (·.1)).Nodup→(k,v)∈x→tot (x.map λ p=>if p.1=k then (p.1,D,y) else p)+v.2.length=tot x+y.length
 | [],_,_,h=>by cases h
 | p::r,v,hn,h=>by
  rw[List.map_cons,List.nodup_cons] at hn
  rw[List.map_cons,jE,jE]
  by_cases e:p.1=k
  ·have hr:(r.map λ p=>if p.1=k then (p.1,D,y) else p)=r:=by
    conv=>rhs;rw[←List.map_id r]
    refine List.map_congr_left λ q hq=>if_neg ?_
    rintro rfl
    exact hn.1 (List.mem_map.mpr ⟨q,hq,e.symm⟩)
   have hv:p=(k,v):=by
    rcases List.mem_cons.mp h with h | h
    ·exact h.symm
    ·exact absurd (List.mem_map.mpr ⟨_,h,rfl⟩) (e▸hn.1)
   rw[hr,if_pos e,hv]
   show y.length+tot r+v.2.length=v.2.length+tot r+y.length
   exact O5
  ·rw[if_neg e]
   have h':(k,v)∈r:=(List.mem_cons.mp h).resolve_left λ z=>e (by rw[←z])
   have:=vN (D:=D) (y:=y) hn.2 h'
   exact N0 this
theorem rD {k:Int} {v:Addr×List Int} (x:Co):(x.map λ p=>if p.1=k then (p.1,v) else p).map (·.1)=x.map (·.1):=by
 rw[List.map_map]
 refine List.map_congr_left λ p _=>?_
 show (if p.1=k then (p.1,v) else p).1=p.1
 split<;>rfl
theorem oV {k:Int} {x:Co} (h:(x.map (·.1)).Nodup):((x.filter λ p=>decide (p.1≠k)).map (·.1)).Nodup:=h.sublist ((List.filter_sublist).map _)
section
variable {M:HM} {kept gone:Nat} {D:Addr} {e:AV}
theorem HM.ab_of {M:HM} (hd:(M.above.map (·.1)).Nodup) {k:Int} {v:Addr×List Int} (h:(k,v)∈M.above):M.ab k=v:=by
 unfold HM.ab
 rw[fK hd h];rfl
theorem rG (o:gH M) (hlt:kept<gone) (hk:M.up[kept]? =some (kept:Int)):((kept:Int),D,(M.ab kept).2++(M.ab gone).2)∈M.joinAb kept gone D:=
 List.mem_map.mpr ⟨_,List.mem_filter.mpr ⟨(o.ab hk).1,by simpa using (by exact xY hlt:(kept:Int)≠gone)⟩,if_pos rfl⟩
theorem rF {i:Nat} (o:gH M) (hi:M.up[i]? =some (i:Int)) (h1:i≠gone) (h2:i≠kept):((i:Int),M.ab i)∈M.joinAb kept gone D:=
 List.mem_map.mpr ⟨_,List.mem_filter.mpr ⟨(o.ab hi).1,by simpa using (by exact Tc h1:(i:Int)≠gone)⟩,if_neg (by show ¬(i:Int)=kept;exact Tb h2)⟩
theorem jJ (o:gH M):((M.joinAb kept gone D).map (·.1)).Nodup:=by
 unfold HM.joinAb
 rw[rD]
 exact oV o.abd
theorem gH.joined (o:gH M) (hlt:kept<gone) (hk:M.up[kept]? =some (kept:Int)) (hg:M.up[gone]? =some (gone:Int)):gH (M.joined kept gone D e)∧(M.joined kept gone D e).up.sum+1≤M.up.sum:=by
 have hgl:=(List.getElem?_eq_some_iff.mp hg).1
 have hkl:=(List.getElem?_eq_some_iff.mp hk).1
 have hs:(M.up.set gone (kept:Int)).sum=M.up.sum-(gone:Int)+(kept:Int):=Bt hg
 have lenUp:(M.joined kept gone D e).up.length=M.up.length:=List.length_set ..
 have hg40:=(o.ab hg).2.2
 have hlot:∀i,i<M.up.length→(M.joined kept gone D e).lot i=if i=kept then M.lot kept++M.lot gone else M.lot i:=λ i hi=>by
  show ((M.lots.set kept _).getD i (0,[])).2=_
  rw[List.getD_eq_getElem?_getD,List.getElem?_set]
  by_cases h:kept=i
  ·subst h
   rw[if_pos rfl,if_pos (by rw[o.lots];exact hi),if_pos rfl];rfl
  ·rw[if_neg h,if_neg (Ne.symm h)]
   unfold HM.lot
   rw[List.getD_eq_getElem?_getD]
 refine ⟨{
  up:=o.up.set hlt
  few:=by rw[lenUp];exact o.few
  lots:=by rw[lenUp,←o.lots];exact List.length_set ..
  nodes:=by rw[lenUp];exact o.nodes
  kids:=o.kids
  lotR:=λ i hi=>?_
  mg:=?_
  fo:=?_
  wa:=?_
  abk:=λ i hi=>?_
  abd:=jJ o
  ab40:=?_
  ups:=(o.up.set hlt).nn
  abn:=?_},by show (M.up.set gone (kept:Int)).sum+1≤_;exact Rk hlt hs⟩
 ·obtain ⟨h1,h2⟩:=jF o.up hlt hk hi
  have hil:=(List.getElem?_eq_some_iff.mp h2).1
  have rs:∀{a:Nat},a<M.up.length→root (M.joined kept gone D e).up a=if root M.up a=gone then kept else root M.up a:=λ ha=>hY o.up hlt hk hg ha
  rw[hlot i hil,lenUp]
  obtain ⟨n1,m1⟩:=o.lotR i h2
  by_cases hik:i=kept
  ·subst hik
   rw[if_pos rfl]
   obtain ⟨n2,m2⟩:=o.lotR gone hg
   refine ⟨List.nodup_append.mpr ⟨n1,n2,λ x hx y hy exy=>?_⟩,λ x=>?_⟩
   ·subst exy
    obtain ⟨a,_,e1,e2⟩:=(m1 x).mp hx
    obtain ⟨b,_,e3,e4⟩:=(m2 x).mp hy
    obtain rfl:a=b:=by exact Mp e1 e3
    exact Qh hlt e2 e4
   ·rw[List.mem_append,m1,m2]
    constructor
    ·rintro (⟨a,ha,e1,e2⟩ | ⟨a,ha,e1,e2⟩)
     ·exact ⟨a,ha,e1,by rw[rs ha,if_neg (by exact Qf hlt e2)];exact e2⟩
     ·exact ⟨a,ha,e1,by rw[rs ha,if_pos e2]⟩
    ·rintro ⟨a,ha,e1,e2⟩
     rw[rs ha] at e2
     split at e2
     ·rename_i e3;exact .inr ⟨a,ha,e1,e3⟩
     ·exact .inl ⟨a,ha,e1,e2⟩
  ·rw[if_neg hik]
   refine ⟨n1,λ x=>?_⟩
   rw[m1]
   constructor
   ·rintro ⟨a,ha,e1,e2⟩
    exact ⟨a,ha,e1,by rw[rs ha,if_neg (by exact Pu h1 e2)];exact e2⟩
   ·rintro ⟨a,ha,e1,e2⟩
    rw[rs ha] at e2
    split at e2
    ·exact absurd e2 (by exact Rx hik)
    ·exact ⟨a,ha,e1,e2⟩
 ·have:=o.mg
  show ((M.merged++_).length:Int)+(M.up.set gone (kept:Int)).sum≤_
  rw[List.length_append,List.length_singleton];exact Iz hlt hs this
 ·have:=o.fo
  show ((M.forest++_).length:Int)+(M.up.set gone (kept:Int)).sum≤_
  rw[List.length_append,List.length_singleton];exact Iz hlt hs this
 ·have:=o.wa
  show (M.known.length:Int)+((M.waiting++(M.ab gone).2).length:Int)+41*(M.up.set gone (kept:Int)).sum≤_
  rw[List.length_append];exact Nf hlt hs hg40 this
 ·obtain ⟨h1,h2⟩:=jF o.up hlt hk hi
  by_cases hik:i=kept
  ·subst hik;exact ⟨_,_,rG o hlt hk⟩
  ·exact ⟨_,_,rF o h2 h1 hik⟩
 ·have h1:=qK o.abd (o.ab hg).1
  have h2:=vN (D:=D) (y:=(M.ab kept).2++(M.ab gone).2) (oV (k:=(gone:Int)) o.abd) (List.mem_filter.mpr ⟨(o.ab hk).1,by simpa using (by exact xY hlt:(kept:Int)≠gone)⟩)
  have h3:tot M.above≤40:=o.ab40
  show tot (M.joinAb kept gone D)≤40
  unfold HM.joinAb
  rw[List.length_append] at h2
  dsimp only at h1 h2
  exact Nz h1 h2 h3
 ·show (M.joinAb kept gone D).length≤10000
  unfold HM.joinAb
  rw[List.length_map]
  exact Nat.le_trans (List.length_filter_le ..) o.abn
end
noncomputable def fM (l:List (cH×Int)) (k:cH):Option Int:=(l.find? λ e=>decide (e.1=k)).map (·.2)
theorem pS (l:List (cH×Int)) (k:cH):kH (l.map λ p=>(p.1,AV.int p.2)) k=(fM l k).map .int:=by
 unfold kH fM
 induction l with
 | nil=>rfl
 | cons p r ih=>
  rw[List.map_cons,List.find?_cons,List.find?_cons]
  by_cases e:p.1=k
  ·simp[e]
  ·have e3:decide (p.1=k)=false:=by simpa using e
   rw[e3];exact ih
theorem jI {l:List (cH×Int)} {k:cH} {m:Int} (h:fM l k=some m):(k,m)∈l:=by
 obtain ⟨p,h1,h2⟩:=Option.map_eq_some_iff.mp h
 have h3:=List.find?_some h1
 have h4:=List.mem_of_find?_eq_some h1
 obtain ⟨a,b⟩:=p
 simp only[decide_eq_true_eq] at h3
 subst h3 h2
 exact h4
theorem rB {l:List (cH×Int)} {k k':cH} {m m':Int} (h:fM l k=some m):fM (l++[(k',m')]) k=some m:=by
 obtain ⟨p,h1,h2⟩:=Option.map_eq_some_iff.mp h
 unfold fM
 rw[List.find?_append,h1]
 exact congrArg some h2
theorem rA {l:List (cH×Int)} {k:cH} {m:Int} (h:fM l k=none):fM (l++[(k,m)]) k=some m:=by
 have h1:=Option.map_eq_none_iff.mp h
 unfold fM
 rw[List.find?_append,h1]
 simp
noncomputable def aQ (ks:List Nat):List Int:=ks.map λ k:Nat=>(k:Int)
theorem uV:∀{a b:List Nat},aQ a=aQ b→a=b
 | [],[],_=>rfl
 | [],_::_,h=>by cases h
 | _::_,[],h=>by cases h
 | x::a,y::b,h=>by
  unfold aQ at h
  rw[List.map_cons,List.map_cons,List.cons.injEq] at h
  rw[Int.ofNat.inj h.1,uV h.2]
theorem kE:∀{a b:List Int},a.map bZ.i=b.map bZ.i→a=b
 | [],[],_=>rfl
 | [],_::_,h=>by cases h
 | _::_,[],h=>by cases h
 | x::a,y::b,h=>by
  rw[List.map_cons,List.map_cons,List.cons.injEq] at h
  rw[bZ.i.inj h.1,kE h.2]
theorem jH {o o':Str} {a b:List Nat} (h:cR (o,aQ a)=cR (o',aQ b)):o=o'∧a=b:=by
 unfold cR at h
 rw[List.cons.injEq] at h
 exact ⟨bZ.s.inj h.1,uV (kE h.2)⟩
noncomputable def HM.keyAt (M:HM) (n:Nat):cH:=cR (qS M.nodes n,aQ ((aL M.nodes n).map (root M.up)))
theorem Fq {M:HM} {n:Nat} {nd:Str×List Int} (h:M.nodes[n]? =some nd):M.key nd=M.keyAt n:=by
 unfold HM.key HM.keyAt aQ aL qS
 rw[List.getD_eq_getElem?_getD,h,List.map_map,List.map_map];rfl
noncomputable def G0 (M:HM) (pr:List (Nat×Nat)):Prop:=∀p∈pr,p.1<M.up.length∧p.2<M.up.length∧root M.up p.1=root M.up p.2
structure eQ (M:HM) (pr:List (Nat×Nat)) (ex:Nat→Prop):Prop where
 sd:∀e,Cn M.nodes pr e→∀a,a<M.up.length→e (root M.up a)=e a
 kn:∀k m,(k,m)∈M.known→∃(j:Nat) (ks:List Nat),m=j∧j<M.up.length∧k=cR (qS M.nodes j,aQ ks)∧∀e,Cn M.nodes pr e→ks.map e=(aL M.nodes j).map e
 pend:∀n,n<M.up.length→¬ex n→(n:Int)∈M.waiting∨∃j:Nat,fM M.known (M.keyAt n)=some (j:Int)∧j<M.up.length∧root M.up j=root M.up n
 us:∀n,n<M.up.length→∀k∈aL M.nodes n,(n:Int)∈(M.ab (root M.up k)).2
 abR:∀i:Nat,M.up[i]? =some (i:Int)→∀x∈(M.ab i).2,∃n:Nat,n<M.up.length∧x=n
 wtR:∀x∈M.waiting,∃n:Nat,n<M.up.length∧x=n
section
variable {M:HM} {pr:List (Nat×Nat)} {ex:Nat→Prop}
theorem gH.kid (o:gH M) {n k:Nat} (hn:n<M.up.length) (hk:k∈aL M.nodes n):k<n:=by
 have hl:n<M.nodes.length:=by rw[o.nodes];exact hn
 unfold aL at hk
 rw[List.getD_eq_getElem?_getD,List.getElem?_eq_getElem hl] at hk
 obtain ⟨x,hx,rfl⟩:=List.mem_map.mp hk
 have:=(o.kids n _ (List.getElem?_eq_getElem hl)).2 x hx
 exact Iy this
theorem G0.joined {kept gone:Nat} {D:Addr} {w:AV} (p:G0 M pr) (o:gH M) (hlt:kept<gone) (hk:M.up[kept]? =some (kept:Int)) (hg:M.up[gone]? =some (gone:Int)):G0 (M.joined kept gone D w) pr:=λ x hx=>by
 obtain ⟨h1,h2,h3⟩:=p x hx
 have len:(M.joined kept gone D w).up.length=M.up.length:=List.length_set ..
 rw[len]
 exact ⟨h1,h2,(hY o.up hlt hk hg h1).trans (h3▸(hY o.up hlt hk hg h2).symm)⟩
theorem eQ.joined {kept gone a b:Nat} {D:Addr} {w:AV} (i:eQ M pr ex) (o:gH M) (hlt:kept<gone) (hk:M.up[kept]? =some (kept:Int)) (hg:M.up[gone]? =some (gone:Int))
  (ha:a<M.up.length) (hb:b<M.up.length) (hor:kept=root M.up a∧gone=root M.up b∨kept=root M.up b∧gone=root M.up a) (hj:∀e,Cn M.nodes pr e→e a=e b)
  (hx:∀n,n<M.up.length→ex n→∃j:Nat,fM M.known (M.keyAt n)=some (j:Int)∧j<M.up.length∧root (M.up.set gone kept) j=root (M.up.set gone kept) n):eQ (M.joined kept gone D w) pr λ _=>False:=by
 have rs:∀{x:Nat},x<M.up.length→root (M.up.set gone (kept:Int)) x=if root M.up x=gone then kept else root M.up x:=λ h=>hY o.up hlt hk hg h
 have len:(M.up.set gone (kept:Int)).length=M.up.length:=List.length_set ..
 have same:∀{x y:Nat},x<M.up.length→y<M.up.length→root M.up x=root M.up y→root (M.up.set gone (kept:Int)) x=root (M.up.set gone (kept:Int)) y:=λ h1 h2 e=>by rw[rs h1,rs h2,e]
 have abk:(M.joined kept gone D w).ab kept=(D,(M.ab kept).2++(M.ab gone).2):=HM.ab_of (jJ o) (rG o hlt hk)
 have abo:∀{i:Nat},M.up[i]? =some (i:Int)→i≠gone→i≠kept→(M.joined kept gone D w).ab i=M.ab i:=λ h h1 h2=>HM.ab_of (jJ o) (rF o h h1 h2)
 have e1:(M.joined kept gone D w).up=M.up.set gone (kept:Int):=rfl
 have e2:(M.joined kept gone D w).nodes=M.nodes:=rfl
 have e3:(M.joined kept gone D w).known=M.known:=rfl
 have e4:(M.joined kept gone D w).waiting=M.waiting++(M.ab gone).2:=rfl
 generalize M.joined kept gone D w=M' at*
 have len':M'.up.length=M.up.length:=by rw[e1];exact len
 rw[←e1] at rs same hx
 refine ⟨λ e he x hx=>?_,λ k m h=>?_,λ n hn _=>?_,λ n hn k hkn=>?_,λ j hj x hxj=>?_,λ x hx=>?_⟩
 ·rw[len'] at hx
  rw[e2] at he
  rw[rs hx]
  split
  ·rename_i h
   have h1:=i.sd e he a ha
   have h2:=i.sd e he b hb
   have h3:=hj e he
   rw[←i.sd e he x hx,h]
   rcases hor with ⟨rfl,rfl⟩ | ⟨rfl,rfl⟩
   ·rw[h1,h2,h3]
   ·rw[h1,h2,h3]
  ·exact i.sd e he x hx
 ·rw[e3] at h
  rw[len',e2]
  exact i.kn k m h
 ·rw[len'] at hn
  by_cases hkid:∃k∈aL M.nodes n,root M.up k=gone
  ·obtain ⟨k,h1,h2⟩:=hkid
   refine .inl ?_
   rw[e4,←h2];exact List.mem_append_right _ (i.us n hn k h1)
  ·have em:(aL M.nodes n).map (root M'.up)=(aL M.nodes n).map (root M.up):=List.map_congr_left λ k hkn=>by
    rw[rs (Nat.lt_trans (o.kid hn hkn) hn),if_neg λ e=>hkid ⟨k,hkn,e⟩]
   have ek:M'.keyAt n=M.keyAt n:=by unfold HM.keyAt;rw[e2,em]
   rw[ek,e3,e4,len']
   by_cases he:ex n
   ·exact .inr (hx n hn he)
   ·rcases i.pend n hn he with h | ⟨j,h1,h2,h3⟩
    ·exact .inl (List.mem_append_left _ h)
    ·exact .inr ⟨j,h1,h2,same h2 hn h3⟩
 ·rw[len'] at hn
  rw[e2] at hkn
  have hkl:=Nat.lt_trans (o.kid hn hkn) hn
  have hu:=i.us n hn k hkn
  rw[rs hkl]
  split
  ·rename_i e
   rw[abk]
   exact List.mem_append_right _ (e▸hu)
  ·rename_i e
   by_cases e2:root M.up k=kept
   ·rw[e2,abk];exact List.mem_append_left _ (e2▸hu)
   ·rw[abo (dW o.up hkl).2.2 e e2];exact hu
 ·rw[e1] at hj
  rw[len']
  obtain ⟨h1,h2⟩:=jF o.up hlt hk hj
  by_cases e:j=kept
  ·subst e
   rw[abk] at hxj
   rcases List.mem_append.mp hxj with h | h
   ·exact i.abR j hk x h
   ·exact i.abR gone hg x h
  ·rw[abo h2 h1 e] at hxj
   exact i.abR j h2 x hxj
 ·rw[e4] at hx
  rw[len']
  rcases List.mem_append.mp hx with h | h
  ·exact i.wtR x h
  ·exact i.abR gone hg x h
theorem eQ.known {n:Nat} (i:eQ M pr (· =n)) (o:gH M) (hn:n<M.up.length) (hnew:fM M.known (M.keyAt n)=none):eQ (M.setKn (M.known++[(M.keyAt n,(n:Int))])) pr λ _=>False:=by
 refine ⟨i.sd,λ k m h=>?_,λ x hx _=>?_,i.us,i.abR,i.wtR⟩
 ·rcases List.mem_append.mp h with h | h
  ·exact i.kn k m h
  ·rw[List.mem_singleton] at h
   cases h
   refine ⟨n,(aL M.nodes n).map (root M.up),rfl,hn,rfl,λ e he=>?_⟩
   rw[List.map_map]
   refine List.map_congr_left λ k hk=>?_
   exact i.sd e he k (Nat.lt_trans (o.kid hn hk) hn)
 ·by_cases e:x=n
  ·subst e
   exact .inr ⟨x,rA hnew,hn,rfl⟩
  ·rcases i.pend x hx e with h | ⟨j,h1,h2,h3⟩
   ·exact .inl h
   ·exact .inr ⟨j,rB h1,h2,h3⟩
theorem eQ.old {n j:Nat} (i:eQ M pr (· =n)) (hj:fM M.known (M.keyAt n)=some (j:Int)) (hl:j<M.up.length) (hr:root M.up j=root M.up n):eQ M pr λ _=>False:=
 ⟨i.sd,i.kn,λ x hx _=>by
  by_cases e:x=n
  ·subst e;exact .inr ⟨j,hj,hl,hr⟩
  ·exact i.pend x hx e,i.us,i.abR,i.wtR⟩
theorem eQ.like {n j:Nat} (i:eQ M pr ex) (o:gH M) (hn:n<M.up.length) (hj:fM M.known (M.keyAt n)=some (j:Int)):j<M.up.length∧∀e,Cn M.nodes pr e→e j=e n:=by
 obtain ⟨j',ks,h1,h2,h3,h4⟩:=i.kn _ _ (jI hj)
 obtain rfl:j=j':=by exact Int.ofNat.inj ‹_›
 refine ⟨h2,λ e he=>he.cg j n (by rw[o.nodes];exact h2) (by rw[o.nodes];exact hn) (jH h3).1.symm ?_⟩
 rw[←h4 e he,←(jH h3).2,List.map_map]
 exact List.map_congr_left λ k hk=>i.sd e he k (Nat.lt_trans (o.kid hn hk) hn)
theorem eQ.done (i:eQ M pr λ _=>False) (hp:G0 M pr) (o:gH M) (hw:M.waiting=[]):Ka M.nodes pr (root M.up) where
 clo:={
  pr:=λ p h=>(hp p h).2.2
  cg:=λ n m hn hm ho hk=>by
   rw[o.nodes] at hn hm
   have h0:∀{x:Nat},x<M.up.length→∃j:Nat,fM M.known (M.keyAt x)=some (j:Int)∧j<M.up.length∧root M.up j=root M.up x:=λ hx=>by
    rcases i.pend _ hx id with h | h
    ·rw[hw] at h;cases h
    ·exact h
   obtain ⟨j,h1,h2,h3⟩:=h0 hn
   obtain ⟨j',h4,h5,h6⟩:=h0 hm
   have:M.keyAt n=M.keyAt m:=by unfold HM.keyAt;rw[ho,hk]
   rw[this,h4] at h1
   obtain rfl:j'=j:=Int.ofNat.inj (Option.some.inj h1)
   rw[←h3,h6]}
 le:=λ a ha=>(dW o.up (by rw[←o.nodes];exact ha)).2.1
 sd:=λ e he a ha=>i.sd e he a (by rw[←o.nodes];exact ha)
theorem eQ.more {pr':List (Nat×Nat)} (i:eQ M pr ex) (hs:∀p∈pr,p∈pr'):eQ M pr' ex:=
 have cl:∀e,Cn M.nodes pr' e→Cn M.nodes pr e:=λ e he=>⟨λ p h=>he.pr p (hs p h),he.cg⟩
 ⟨λ e he=>i.sd e (cl e he),λ k m h=>let ⟨j,ks,h1,h2,h3,h4⟩:=i.kn k m h;⟨j,ks,h1,h2,h3,λ e he=>h4 e (cl e he)⟩,i.pend,i.us,i.abR,i.wtR⟩
theorem eQ.popped {ws:List Int} {n:Nat} (i:eQ M pr λ _=>False) (hw:M.waiting=ws++[(n:Int)]):eQ (M.setWa ws) pr (· =n):=
 ⟨i.sd,i.kn,λ x hx hne=>by
  rcases i.pend x hx id with h | h
  ·rw[hw] at h
   rcases List.mem_append.mp h with h | h
   ·exact .inl h
   ·rw[List.mem_singleton] at h;exact absurd (Int.ofNat.inj h) hne
  ·exact .inr h,i.us,i.abR,λ x hx=>i.wtR x (by rw[hw];exact List.mem_append_left _ hx)⟩
end
section
variable {c:Cx} {σ:aF} {L:HL} {M:HM} {Φ:AV→aF→Prop}
theorem B1 (o:gH M) {n:Nat} (hn:n<M.up.length):∃nd,M.nodes[n]? =some nd∧M.key nd=M.keyAt n:=
 have h:=List.getElem?_eq_getElem (l:=M.nodes) (by rw[o.nodes];exact hn)
 ⟨_,h,Fq h⟩
theorem B7 (hc:4≤c.n) (q:aI L M σ) (o:gH M) (hed:M.edges.length≤100000) {n:Nat} (hn:n<M.up.length) (hkn:∀k m,(k,m)∈M.known→∃j:Nat,m=j∧j<M.up.length)
  (hfresh:∀σ',fM M.known (M.keyAt n)=none→fQ σ σ'→aI L (M.setKn (M.known++[(M.keyAt n,(n:Int))])) σ'→Φ .none σ')
  (hsame:∀σ' (j:Nat),fM M.known (M.keyAt n)=some (j:Int)→j<M.up.length→root M.up j=root M.up n→fQ σ σ'→aI L M σ'→Φ .none σ')
  (hdiff:∀σ' D (kept gone j:Nat) e,fM M.known (M.keyAt n)=some (j:Int)→j<M.up.length→kept<gone→M.up[kept]? =some (kept:Int)→M.up[gone]? =some (gone:Int)→(kept=root M.up j∧gone=root M.up n∨kept=root M.up n∧gone=root M.up j)→fQ σ σ'→
   aI L (M.joined kept gone D e) σ'→Φ .none σ'):gG c σ (.ref 415) [.ref (L 1),.int n] Φ:=by
 obtain ⟨nd,h1,h2⟩:=B1 o hn
 have hz:(M.known.map λ p=>(p.1,AV.int p.2)).length≤10000000:=by
  have:=o.wa
  have:=o.ups
  rw[List.length_map];exact Rq ‹_› this
 refine (sE c.w).call (c1 hc) rfl λ K=>aE (aJ (cO (mJ (q.at 16)) (jT q (aM rfl rfl) rfl rfl rfl) (aA ?_)))
 refine bG (q.at 1) (q.at 2) rfl (gX (cS c.w) 1 rfl) (aM rfl rfl) (aA (aC rfl rfl (aB ?_)))
 refine Bz (c:=c.deep _) (cn hc) q o h1 λ σ1 E1 q1=>?_
 rw[h2]
 refine aA (aC rfl rfl (aB ?_))
 have tail:∀(p0:Pos) (M':HM) (σ2:aF) (j:Nat),aI L M' σ2→fQ σ σ2→M'.up=M.up→j<M.up.length→(root M.up j=root M.up n→Φ .none σ2)→(root M.up j≠root M.up n→M'=M∧fM M.known (M.keyAt n)=some (j:Int))→
   WA (c.deep (bB cM K 415)) (bB cM K 415) (iR ([z23,z92].zip [AV.ref (L 1),AV.int (n:Int)]) λ _=>none) σ2 (.Name z28 p0) (.int j) λ l σ'=>WS (c.deep (bB cM K 415)) (bB cM K 415) l σ' (execs (mV 1 jP) (bB cM K 415)) λ fl _ σ'=>∃av,J7 fl av∧Φ av σ':=by
  intro p0 M' σ2 j q2 E2 eu hj hs hd
  refine bX rfl rfl (aE (eG (aT ?_)))
  refine bG (q2.at 1) (q2.at 2) rfl (gX (cS c.w) 0 rfl) (aM rfl rfl) (aA (aC rfl rfl (aB ?_)))
  refine fY (c:=c.deep _) (cn hc) q2 (by rw[eu];exact o.up) (by rw[eu];exact o.z) (by rw[eu];exact hj) λ _ _=>?_
  refine bG (q2.at 1) (q2.at 2) rfl (gX (cS c.w) 0 rfl) (aM rfl rfl) (aA (aC rfl rfl (aB ?_)))
  refine fY (c:=c.deep _) (cn hc) q2 (by rw[eu];exact o.up) (by rw[eu];exact o.z) (by rw[eu];exact hn) λ _ _=>?_
  rw[eu]
  refine Bx ⟨_,rfl,?_⟩
  by_cases e:root M.up j=root M.up n
  ·rw[e,show (((root M.up n:Nat):Int) !=((root M.up n:Nat):Int))=false by simp,if_neg (by simp)]
   exact aP (aP ⟨_,rfl,hs e⟩)
  ·obtain ⟨rfl,hk⟩:=hd e
   rw[show (((root M'.up j:Nat):Int) !=((root M'.up n:Nat):Int))=true by simp only[bne_iff_ne];exact Fe e,if_pos rfl]
   refine aE (bA (bG (q2.at 1) (q2.at 2) rfl (gX (cS c.w) 2 rfl) (aM rfl rfl) (aA (aC rfl rfl (aA (aC rfl rfl (aA (aZ (aA (fB (aB ⟨by simp,aB ?_⟩)))))))))))
   refine B9 (c:=c.deep _) (cn hc) q2 o hed hj hn (λ _ e2=>absurd e2 e) λ σ' D kept gone a1 a2 a3 a4 e1 q'=>aP (aP ⟨_,rfl,?_⟩)
   exact hdiff σ' D kept gone j _ hk hj a1 a2 a3 a4 (E2.trans e1) q'
 refine kN (q1.at 16) hz (λ y hy=>?_) λ hnew=>?_
 ·rw[pS] at hy
  obtain ⟨m,hm,rfl⟩:=Option.map_eq_some_iff.mp hy
  obtain ⟨j,rfl,hj⟩:=hkn _ _ (jI hm)
  exact tail _ M σ1 j q1 E1 rfl hj (λ e=>hsame σ1 j hm hj e E1 q1) λ _=>⟨rfl,hm⟩
 ·rw[pS] at hnew
  have hnew':=Option.map_eq_none_iff.mp hnew
  have q2:=q1.setKn (M.known++[(M.keyAt n,(n:Int))])
  rw[show (M.known++[(M.keyAt n,(n:Int))]).map (λ p=>(p.1,AV.int p.2))=(M.known.map λ p=>(p.1,AV.int p.2))++[(M.keyAt n,AV.int n)] by rw[List.map_append];rfl] at q2
  have E2:=E1.put (y:=(.t 16,.tdict ((M.known.map λ p=>(p.1,AV.int p.2))++[(M.keyAt n,AV.int n)]))) (.inr ⟨_,_,rfl,q1.at 16⟩)
  exact tail _ _ _ n q2 E2 rfl hn (λ _=>hfresh _ hnew' E2 q2) λ h=>absurd rfl h
end
structure gV (M M':HM):Prop where
 nodes:M'.nodes=M.nodes
 ws:M'.weights=M.weights
 ds:M'.depths=M.depths
 len:M'.up.length=M.up.length
theorem gV.refl (M:HM):gV M M:=⟨rfl,rfl,rfl,rfl⟩
theorem gV.trans {a b d:HM} (x:gV a b) (y:gV b d):gV a d:=⟨y.nodes.trans x.nodes,y.ws.trans x.ws,y.ds.trans x.ds,y.len.trans x.len⟩
section
variable {M:HM} {pr:List (Nat×Nat)}
theorem gV.joined {k g:Nat} {D:Addr} {e:AV}:gV M (M.joined k g D e):=⟨rfl,rfl,rfl,List.length_set ..⟩
theorem gH.setWa (o:gH M) {ws:List Int} (h:ws.length≤M.waiting.length):gH (M.setWa ws):=
 {o with wa:=by have:=o.wa;show (M.known.length:Int)+(ws.length:Int)+41*M.up.sum≤_;exact O3 h this}
theorem gH.setKn (o:gH M) {x:List (cH×Int)} (h:(x.length:Int)+M.waiting.length+41*M.up.sum≤70000):gH (M.setKn x):={o with wa:=h}
theorem gH.setEd (o:gH M) (x:List AV):gH (M.setEd x):={o with wa:=o.wa}
theorem eQ.setEd {ex:Nat→Prop} (i:eQ M pr ex) (x:List AV):eQ (M.setEd x) pr ex:=⟨i.sd,i.kn,i.pend,i.us,i.abR,i.wtR⟩
theorem eQ.knj {ex:Nat→Prop} (i:eQ M pr ex):∀k m,(k,m)∈M.known→∃j:Nat,m=j∧j<M.up.length:=λ k m h=>let ⟨j,_,h1,h2,_⟩:=i.kn k m h;⟨j,h1,h2⟩
theorem uJ {kept gone a b:Nat} (o:gH M) (hlt:kept<gone) (hk:M.up[kept]? =some (kept:Int)) (hg:M.up[gone]? =some (gone:Int)) (ha:a<M.up.length) (hb:b<M.up.length) (hor:kept=root M.up a∧gone=root M.up b∨kept=root M.up b∧gone=root M.up a):
  root (M.up.set gone kept) a=root (M.up.set gone kept) b:=by
 rw[hY o.up hlt hk hg ha,hY o.up hlt hk hg hb]
 rcases hor with ⟨h1,h2⟩ | ⟨h1,h2⟩
 ·rw[←h1,←h2,if_neg (Nat.ne_of_lt hlt),if_pos rfl]
 ·rw[←h1,←h2,if_pos rfl,if_neg (Nat.ne_of_lt hlt)]
end
section
variable {c:Cx} {σ:aF} {L:HL} {M:HM} {Φ:AV→aF→Prop} {pr:List (Nat×Nat)}
theorem Df (hc:4≤c.n) (q:aI L M σ) (o:gH M) (i:eQ M pr λ _=>False) (p:G0 M pr) (hed:M.edges.length≤100000) {a b:Nat} (ha:a<M.up.length) (hb:b<M.up.length) {w:List AV}
  (h:∀σ' M' v,fQ σ σ'→aI L M' σ'→gH M'→eQ M' (pr++[(a,b)]) (λ _=>False)→G0 M' (pr++[(a,b)])→gV M M'→M'.edges.length=M.edges.length+1→Φ (.bool v) σ'):gG c σ (.ref 436) [.ref (L 1),.int a,.int b,.tup w] Φ:=by
 refine (wL c.w).call (c1 hc) rfl λ K=>aE (aR (bG (q.at 1) (q.at 2) rfl (gX (cS c.w) 2 rfl) (aM rfl rfl) (aA (aC rfl rfl (aA (aC rfl rfl (aA (aC rfl rfl (aB ?_)))))))))
 have i2:=i.more (pr':=pr++[(a,b)]) λ _=>List.mem_append_left _
 refine B9 (c:=c.deep _) (cn hc) q o hed ha hb (λ σ' e E q'=>?_) (λ σ' D kept gone hlt hk hg hor E q'=>?_)
 ·refine ⟨_,rfl,h σ' _ _ E q' (o.setEd _) (i2.setEd _) (λ x hx=>?_) ⟨rfl,rfl,rfl,rfl⟩ (List.length_append ..)⟩
  rcases List.mem_append.mp hx with hx | hx
  ·exact p x hx
  ·rw[List.mem_singleton] at hx;subst hx;exact ⟨ha,hb,e⟩
 ·refine ⟨_,rfl,h σ' _ _ E q' (o.joined hlt hk hg).1 (i2.joined o hlt hk hg ha hb hor (λ e he=>he.pr (a,b) (List.mem_append_right _ List.mem_cons_self)) nofun) (λ x hx=>?_) gV.joined (List.length_append ..)⟩
  rcases List.mem_append.mp hx with hx | hx
  ·exact p.joined o hlt hk hg x hx
  ·rw[List.mem_singleton] at hx;subst hx
   have len:(M.joined kept gone D (AV.tup [.int a,.int b,.tup w])).up.length=M.up.length:=List.length_set ..
   rw[len]
   exact ⟨ha,hb,uJ (M:=M) o hlt hk hg ha hb hor⟩
theorem C0 (hc:5≤c.n) (q:aI L M σ) (o:gH M) (i:eQ M pr λ _=>False) (p:G0 M pr) (hed:(M.edges.length:Int)+M.up.sum≤90000)
  (h:∀σ' M',fQ σ σ'→aI L M' σ'→gH M'→eQ M' pr (λ _=>False)→M'.waiting=[]→G0 M' pr→gV M M'→Φ .none σ'):gG c σ (.ref 450) [.ref (L 1)] Φ:=by
 refine (tQ c.w).call (c1 hc) rfl λ K=>aE (jS (λ n loc σ'=>loc z23=some (.ref (L 1))∧∃M',aI L M' σ'∧gH M'∧eQ M' pr (λ _=>False)∧G0 M' pr∧gV M M'∧(M'.edges.length:Int)+M'.up.sum≤90000∧fQ σ σ'∧(n:Int)=M'.waiting.length+41*M'.up.sum)
  (M.waiting.length+41*M.up.sum).toNat ⟨rfl,M,q,o,i,p,.refl M,hed,.refl σ,by have:=o.ups;exact Ez this⟩ ?_)
 rintro n loc σ1 ⟨h1,M',q',o',i',p',s',e',E',hm⟩
 have hwa:=o'.wa
 have hup:=o'.ups
 refine aT (bP (cZ c.w) rfl aK (aA (kU q' (aM h1 rfl) rfl rfl rfl (aB (bK (q'.at 18) (by rw[aN];exact Rp hwa hup) (aY (Ma ⟨_,rfl,?_⟩)))))))
 rw[aN]
 by_cases hw:M'.waiting=[]
 ·rw[show decide ((M'.waiting.length:Int)>0)=false by rw[hw];rfl,if_neg (by simp)]
  exact aP ⟨_,rfl,h σ1 M' E' q' o' i' hw p' s'⟩
 obtain ⟨ws,x,hwx⟩:∃ws x,M'.waiting=ws++[x]:=⟨_,_,(List.dropLast_concat_getLast hw).symm⟩
 obtain ⟨k,hk,rfl⟩:=i'.wtR x (by rw[hwx];exact List.mem_append_right _ List.mem_cons_self)
 have hlen:M'.waiting.length=ws.length+1:=by rw[hwx,List.length_append];rfl
 rw[show decide ((M'.waiting.length:Int)>0)=true by rw[hlen];exact decide_eq_true (by exact Zr),if_pos rfl]
 have q18:=q'.at 18
 rw[hwx,←dG] at q18
 refine aE (bA (bG (q'.at 1) (q'.at 2) rfl (gX (cS c.w) 4 rfl) (aM h1 rfl) (aA (cO (Mc q18) (jT q' (aM h1 rfl) rfl rfl rfl) (aB (Kk (xs:=aS ws) (x:=.int k) q18 (by rw[aN];exact Nj hwa hup hlen) (aB ?_)))))))
 have q2:=q'.setWa ws
 have E2:=E'.put (y:=(.t 18,.list (aS ws))) (.inr ⟨_,_,rfl,q'.at 18⟩)
 have o2:=o'.setWa (ws:=ws) (by exact Jm hlen)
 have i2:=i'.popped hwx
 have hw2:(M'.known.length:Int)+ws.length+41*M'.up.sum+1≤70000:=by exact Nh hwa hlen
 have back:∀(m:Nat) (P:Nat→Prop),m<n→P m→∃m,m<n∧P m:=λ m P h1 h2=>⟨m,h1,h2⟩
 refine B7 (c:=c.deep _) (cn hc) q2 o2 (show M'.edges.length≤100000 by exact Vc e' hup) hk i2.knj (λ σ' hf E q3=>?_) (λ σ' j hj hl hr E q3=>?_) (λ σ' D kept gone j e hj hl hlt hkk hgg hor E q3=>?_)
 ·refine aP ⟨(ws.length+41*M'.up.sum).toNat,by exact I0 hm hup hlen,h1,_,q3,o2.setKn ?_,i2.known o2 hk hf,p',s'.trans ⟨rfl,rfl,rfl,rfl⟩,e',E2.trans E,?_⟩
  ·show ((M'.known++_).length:Int)+(ws.length:Int)+41*M'.up.sum≤_
   rw[List.length_append,List.length_singleton];exact Ni hwa hlen
  ·show _=(ws.length:Int)+41*M'.up.sum
   exact Ez hup
 ·refine aP ⟨(ws.length+41*M'.up.sum).toNat,by exact I0 hm hup hlen,h1,_,q3,o2,i2.old hj hl hr,p',s'.trans ⟨rfl,rfl,rfl,rfl⟩,e',E2.trans E,?_⟩
  show _=(ws.length:Int)+41*M'.up.sum
  exact Ez hup
 ·obtain ⟨o3,hs⟩:=o2.joined (D:=D) (e:=e) hlt hkk hgg
  have hg40:=(o2.ab hgg).2.2
  have hsum:(M'.up.set gone (kept:Int)).sum+1≤M'.up.sum:=hs
  have h0:=o3.ups
  have h0':0≤(M'.up.set gone (kept:Int)).sum:=h0
  have hor':kept=root M'.up k∧gone=root M'.up j∨kept=root M'.up j∧gone=root M'.up k:=hor.symm
  have i3:=i2.joined (D:=D) (w:=e) o2 hlt hkk hgg hl hk hor (i2.like o2 hk hj).2 λ x hx hxk=>by
   subst hxk
   exact ⟨j,hj,hl,uJ o2 hlt hkk hgg hl hk hor⟩
  have wl:((M'.setWa ws).joined kept gone D e).waiting.length=ws.length+(((M'.setWa ws).ab gone).2).length:=List.length_append ..
  refine aP ⟨((ws.length+(((M'.setWa ws).ab gone).2).length:Nat)+41*(M'.up.set gone (kept:Int)).sum).toNat,by exact Ng hm hlen hg40 hsum h0',h1,_,q3,o3,i3,p'.joined (M:=M'.setWa ws) o2 hlt hkk hgg,s'.trans ((⟨rfl,rfl,rfl,rfl⟩:gV M' (M'.setWa ws)).trans gV.joined),?_,E2.trans E,?_⟩
  ·show ((M'.edges++[e]).length:Int)+(M'.up.set gone (kept:Int)).sum≤_
   rw[List.length_append,List.length_singleton];exact U8 e' hsum
  ·rw[wl]
   show _=_+41*(M'.up.set gone (kept:Int)).sum
   exact Mq h0'
end
section
variable {σ σ':aF} {L:HL} {M:HM}
theorem aF.del_tag {a b:Addr} {t t':Tg} {o o':AO} (ha:σ a=some (t,o)) (hb:σ b=some (t',o')) (h:t'≠t):(σ.del a) b=some (t',o'):=by
 unfold aF.del
 rw[if_neg (λ e=>by subst e;rw[ha] at hb;cases hb;exact h rfl)];exact hb
theorem aI.del (q:aI L M σ) {D:Addr} {t:Tg} {ao:AO} (hD:σ D=some (t,ao)) (ht:∀i,i≠0→t≠ .t i) (hu:∀i j,i=1∨i=2→t≠ .u i j):aI L M (σ.del D) where
 fix:=λ i t' a ao hi e=>by
  have:=cW e
  dsimp only at this
  subst this
  exact aF.del_tag hD (q.fix i _ a ao hi e) (Ne.symm (ht i hi))
 lot:=λ i a l e=>aF.del_tag hD (q.lot i a l e) (Ne.symm (hu 1 i (.inl rfl)))
 abv:=λ k a l e=>aF.del_tag hD (q.abv k a l e) (Ne.symm (hu 2 k (.inr rfl)))
theorem fQ.del (x:fQ σ σ') {a:Addr} {t:Tg} {o:AO} (ha:σ' a=some (t,o)) (ht:eO t=true):fQ σ (σ'.del a):=λ t' b o' h e=>
 aF.del_tag ha (x t' b o' h e) (λ e2=>by subst e2;rw[h] at ht;cases ht)
end
section
variable {c:Cx} {σ:aF} {L:HL} {M:HM} {Φ:AV→aF→Prop}
theorem yJ (hc:2≤c.n) (q:aI L M σ) (hz:M.up.length≤1000) (h:∀σ' D,fQ σ σ'→aI L M σ'→σ' D=some (.t 0,.list (aS (jW M.up M.up.length)))→Φ (.ref D) σ'):gG c σ (.ref 464) [.ref (L 1)] Φ:=by
 refine (sF c.w).call (c1 hc) rfl λ K=>aE (aR (bG (q.at 5) (q.at 6) rfl (gX (eE c.w) 5 rfl) (jT q (aM rfl rfl) rfl rfl rfl) (aB ?_)))
 exact Bg (c:=c.deep _) (cn hc) q hz λ σ' D E q' hD=>⟨_,rfl,h σ' D E q' hD⟩
theorem yI (hc:3≤c.n) (q:aI L M σ) (o:gH M) {a:Nat} (ha:a<M.up.length)
  (h:∀σ' D ns,fQ σ σ'→aI L M σ'→(∀x:Int,x∈ns↔∃b:Nat,b<M.up.length∧x=b∧root M.up b=root M.up a)→ns.length≤40→σ' D=some (.t 0,.list (aS ns))→Φ (.ref D) σ'):gG c σ (.ref 471) [.ref (L 1),.int a] Φ:=by
 refine (sD c.w).call (c1 hc) rfl λ K=>aE (aR (bG (q.at 5) (q.at 6) rfl (gX (eE c.w) 4 rfl) (jT q (aM rfl rfl) rfl rfl rfl) (aA (aC rfl rfl (aB ?_)))))
 have lotE:∀(i:Nat) b l,M.lots[i]? =some (b,l)→l=M.lot i:=λ i b l e=>by
  unfold HM.lot
  rw[List.getD_eq_getElem?_getD,e];rfl
 refine Ay (c:=c.deep _) (cn hc) q o.up o.z o.lots ha (λ i b l hi hl=>?_) λ σ' D r b l ns E q' hf hl hp hD=>⟨_,rfl,?_⟩
 ·rw[lotE i b l hl]
  exact Nat.lt_of_le_of_lt (o.lot40 i hi) (by decide)
 ·have hr:=hf.root o.up
  subst hr
  have e:=lotE _ b l hl
  subst e
  have sp:=(dW o.up ha).2.2
  refine h σ' D ns E q' (λ x=>?_) ?_ hD
  ·rw[hp.mem_iff];exact (o.lotR _ sp).2 x
  ·rw[hp.length_eq];exact o.lot40 _ sp
theorem Ee (hc:3≤c.n) (q:aI L M σ) (o:gH M) {a:Nat} (ha:a<M.up.length)
  (h:∀σ' D ns,fQ σ σ'→aI L M σ'→(∀x:Int,x∈ns↔x∈(M.ab (root M.up a)).2)→ns.length≤40→σ' D=some (.t 0,.list (aS ns))→Φ (.ref D) σ'):gG c σ (.ref 495) [.ref (L 1),.int a] Φ:=by
 refine (wK c.w).call (c1 hc) rfl λ K=>aE (aR (bP (iB c.w) rfl aK (aA (bP (cE c.w 8 rfl) rfl bN (aA (bF (kU q (aM rfl rfl) rfl rfl rfl ?_)))))))
 refine bG (q.at 1) (q.at 2) rfl (gX (cS c.w) 0 rfl) (aM rfl rfl) (aA (aC rfl rfl (aB ?_)))
 refine fY (c:=c.deep _) (cn hc) q o.up o.z ha λ _ hr=>?_
 obtain ⟨k1,k2,k3⟩:=o.ab hr
 have ik:gY (eF M.above) ((root M.up a:Nat):Int)=some (.ref (M.ab (root M.up a)).1):=by unfold eF;rw[mN (λ p:Addr×List Int=>AV.ref p.1),k2];rfl
 refine fN (q.at 17) ik (aB ?_)
 have hall:∀x∈aS (M.ab (root M.up a)).2,Dr true x:=λ x hx=>let ⟨n,_,e⟩:=List.mem_map.mp hx;⟨n,e.symm⟩
 have hl:(aS (M.ab (root M.up a)).2).length<64:=by rw[aN];exact Mf k3
 refine Af (.t 0) true (q.abv _ _ _ k1) hall hl λ S hS=>aB (kX (.t 0) (aF.put_same ..) (λ x hx=>⟨hall x hx,nofun⟩) hl λ D ys hD hm hyl=>⟨_,rfl,?_⟩)
 obtain ⟨ns,rfl⟩:∃ns,ys=aS ns:=by
  have:∀zs:List AV,(∀z∈zs,Dr true z)→∃ns,zs=aS ns:=λ zs=>by
   induction zs with
   | nil=>intro _;exact ⟨[],rfl⟩
   | cons z r ih=>
    intro hz
    obtain ⟨n,rfl⟩:=hz z List.mem_cons_self
    obtain ⟨ns,rfl⟩:=ih λ y hy=>hz y (List.mem_cons_of_mem _ hy)
    exact ⟨n::ns,rfl⟩
  exact this ys λ z hz=>hall z ((hm z).mp hz)
 rw[aN,aN] at hyl
 refine h _ D ns (((fQ.refl σ).put (.inl hS)).put (.inl hD)) ((q.new hS _).new hD _) (λ x=>?_) (Nat.le_trans hyl k3) (aF.put_same ..)
 have:=hm (.int x)
 unfold aS at this
 constructor
 ·intro hx
  obtain ⟨y,hy,e⟩:=List.mem_map.mp (this.mp (List.mem_map.mpr ⟨x,hx,rfl⟩))
  cases e;exact hy
 ·intro hx
  obtain ⟨y,hy,e⟩:=List.mem_map.mp (this.mpr (List.mem_map.mpr ⟨x,hx,rfl⟩))
  cases e;exact hy
theorem xS (hc:4≤c.n) (q:aI L M σ) (o:gH M) {a:Nat} (ha:a<M.up.length)
  (h:∀σ' D ys,fQ σ σ'→aI L M σ'→(∀x,x∈ys↔∃b:Nat,b<M.up.length∧root M.up b=root M.up a∧x=(M.keyAt b).av)→ys.length≤40→σ' D=some (.t 0,.list ys)→Φ (.ref D) σ'):gG c σ (.ref 476) [.ref (L 1),.int a] Φ:=by
 refine (pN c.w).call (c1 hc) rfl λ K=>aE (aR (bP (iB c.w) rfl aK (aA (bP (cE c.w 8 rfl) rfl bN (aA (bW (cl:=[(z23,K+1)]) (bY.of (by kernel_rfl) rfl (λ p hp=>hp) (List.pairwise_singleton _ _)) (.t 0) ?_))))))
 refine bG (q.at 1) (q.at 2) rfl (gX (cS c.w) 7 rfl) (dH (a:=K+1) rfl (.inl rfl) rfl) (aA (aC rfl rfl (aB ?_)))
 refine yI (c:=c.deep _) (cn hc) q o ha λ σ1 D ns E q1 hm hl hD=>?_
 have q2:=q1.del hD (λ i hi e=>by cases e;exact hi rfl) nofun
 refine ⟨_,_,eU rfl hD,by rw[aN];exact Me hl,λ j acc σ'=>fQ σ σ'∧aI L M σ'∧acc=(ns.take j).map λ n=>(M.keyAt n.toNat).av,⟨⟨E.del hD rfl,q2,rfl⟩,?_⟩,?_⟩
 ·rintro C j y acc σ' hy ⟨E',q',rfl⟩
  rw[aS,List.getElem?_map] at hy
  obtain ⟨k,hk1,rfl⟩:=Option.map_eq_some_iff.mp hy
  obtain ⟨m,hm1,rfl,_⟩:=(hm k).mp (List.mem_of_getElem? hk1)
  obtain ⟨nd,h1,h2⟩:=B1 o hm1
  refine bG (q'.at 1) (q'.at 2) rfl (gX (cS c.w) 1 rfl) (dH (a:=K+1) rfl (.inl rfl) rfl) (aA (aC (if_pos rfl) rfl (aB ?_)))
  refine Bz (c:=c.deep _) (cn hc) q' o h1 λ σ'' e'' q''=>⟨E'.trans e'',q'',?_⟩
  rw[h2,List.take_add_one,hk1,List.map_append];rfl
 ·rintro acc σ' D2 ⟨E',q',rfl⟩ hl2 hD2
  rw[aN,List.take_length]
  have hmem:∀x,(x∈ns.map λ n=>(M.keyAt n.toNat).av)↔∃b:Nat,b<M.up.length∧root M.up b=root M.up a∧x=(M.keyAt b).av:=λ x=>by
   rw[List.mem_map]
   constructor
   ·rintro ⟨n,hn,rfl⟩
    obtain ⟨b,h1,rfl,h2⟩:=(hm n).mp hn
    exact ⟨b,h1,h2,rfl⟩
   ·rintro ⟨b,h1,h2,rfl⟩
    exact ⟨b,(hm _).mpr ⟨b,h1,rfl,h2⟩,rfl⟩
  have hk:∀x∈(ns.map λ n=>(M.keyAt n.toNat).av),∃k,uB k∧x=cH.av k:=λ x hx=>let ⟨b,_,_,e⟩:=(hmem x).mp hx;⟨_,⟨_,_,rfl⟩,e⟩
  have hlen:(ns.map λ n=>(M.keyAt n.toNat).av).length<64:=by rw[List.length_map];exact Mf hl
  refine aB (Af (.t 0) false (aF.put_same ..) (λ x hx=>let ⟨k,_,e⟩:=hk x hx;⟨k,e⟩) hlen λ S hS=>aB (kX (.t 0) (aF.put_same ..) (λ x hx=>⟨let ⟨k,_,e⟩:=hk x hx;⟨k,e⟩,λ _=>hk x hx⟩) hlen λ D3 ys hD3 hm3 hyl=>⟨_,rfl,?_⟩))
  refine h _ D3 ys (((E'.put (.inl hD2)).put (.inl hS)).put (.inl hD3)) (((q'.new hD2 _).new hS _).new hD3 _) (λ x=>(hm3 x).trans (hmem x)) ?_ (aF.put_same ..)
  rw[List.length_map] at hyl
  exact Sp hl hyl
end
noncomputable def cV (o:Option Nat):AV:=Ab (o.map λ v:Nat=>(v:Int))
noncomputable def lO (l:List (Nat×Nat)):List (Int×AV):=l.map λ p=>((p.1:Int),.int (p.2:Int))
theorem kC (l:List (Nat×Nat)) (k:Nat):gY (lO l) (k:Int)=(l.lookup k).map λ v=>.int (v:Int):=by
 unfold lO gY
 induction l with
 | nil=>rfl
 | cons p r ih=>
  rw[List.map_cons,List.lookup_cons,List.find?_cons]
  by_cases e:p.1=k
  ·simp[e]
  ·have e2:(k==p.1)=false:=by simpa using λ z=>e z.symm
   have e3:decide ((p.1:Int)=(k:Int))=false:=decide_eq_false λ z=>e (Int.ofNat.inj z)
   rw[e2,e3];exact ih
theorem gQ (l:List (Nat×Nat)) (k:Nat):(gY (lO l) (k:Int)).getD .none=cV (l.lookup k):=by
 rw[kC]
 unfold cV
 cases l.lookup k<;>rfl
set_option genInjectivity false in
set_option genSizeOfSpec false in
structure KA where
 X:Addr
 d:Addr
 A:Addr
 dA:Addr
 T:Addr
noncomputable def nN (L:HL) (a:KA) (V:Addr):List (Str×AV):=[(z46,.ref (L 1)),(z47,.ref a.A),(z25,.ref V),(z60,.ref a.T),(z59,.int 0)]
noncomputable def zC (z:Bool):Addr:=if z then 66 else 45
noncomputable def zF (z:Bool):Addr:=if z then 63 else 35
structure cL (k:Nat) (L:HL) (a:KA) (z:Bool) (V:Addr) (l:List (Nat×Nat)) (σ:aF):Prop where
 x:σ a.X=some (.u 3 k,.inst 130 a.d)
 d:σ a.d=some (.u 4 k,.ns (nN L a V))
 v:σ V=some (.u 5 k,.idict (lO l))
 an:σ a.A=some (.u 6 k,.inst (zC z) a.dA)
 da:σ a.dA=some (.u 7 k,.ns [])
noncomputable def jA (k:Nat) (t:Tg):Bool:=eO t||match t with | .u i j=>j==k&&decide (3≤i)&&decide (i≤12) | _=>false
noncomputable def gW (k:Nat) (σ σ':aF):Prop:=∀t a ao,jA k t=false→σ a=some (t,ao)→σ' a=some (t,ao)
section
variable {k:Nat} {σ σ':aF} {L:HL} {M:HM} {a:KA} {z:Bool} {V:Addr} {l:List (Nat×Nat)}
theorem gW.refl (σ:aF):gW k σ σ:=λ _ _ _ _ h=>h
theorem gW.trans {a b d:aF} (x:gW k a b) (y:gW k b d):gW k a d:=λ t b o h e=>y t b o h (x t b o h e)
theorem gW.of (x:fQ σ σ'):gW k σ σ':=λ t b o h e=>x t b o (Bool.or_eq_false_iff.mp h).1 e
theorem gW.put {σ σ':aF} (x:gW k σ σ') {a:Addr} {y:Tg×AO} (ha:σ' a=none∨∃t o,jA k t=true∧σ' a=some (t,o)):gW k σ (σ'.put a y):=λ t b o h e=>by
 have hb:=x t b o h e
 rw[aF.put_ne,hb]
 rintro rfl
 rcases ha with ha | ⟨t',o',h',ha⟩
 ·rw[ha] at hb;cases hb
 ·rw[ha] at hb;cases hb
  rw[h] at h';cases h'
theorem gW.del (x:gW k σ σ') {a:Addr} {t:Tg} {o:AO} (ha:σ' a=some (t,o)) (ht:jA k t=true):gW k σ (σ'.del a):=λ t' b o' h e=>
 aF.del_tag ha (x t' b o' h e) (λ e2=>by subst e2;rw[h] at ht;cases ht)
theorem cL.ext (q:cL k L a z V l σ) (e:fQ σ σ'):cL k L a z V l σ':=⟨e _ _ _ rfl q.x,e _ _ _ rfl q.d,e _ _ _ rfl q.v,e _ _ _ rfl q.an,e _ _ _ rfl q.da⟩
theorem cL.new (q:cL k L a z V l σ) {D:Addr} (hD:σ D=none) (y:Tg×AO):cL k L a z V l (σ.put D y):=
 ⟨aF.put_new _ hD q.x,aF.put_new _ hD q.d,aF.put_new _ hD q.v,aF.put_new _ hD q.an,aF.put_new _ hD q.da⟩
end
section
variable {c:Cx} {env:Env} {loc:aV} {σ:aF} {k:Nat} {L:HL} {M:HM} {a:KA} {z:Bool} {V:Addr} {l:List (Nat×Nat)}
theorem gR {o:Expr} {nm:Str} {v:AV} {pos:Pos} (q:cL k L a z V l σ) (ho:∀Ψ:AV→aF→Prop,Ψ (.ref a.X) σ→WE c env loc σ o Ψ) (h3:(nN L a V).lookup nm=some v) (h4:([z46,z47,z25,z60,z59].contains nm)=true) (h5:v.handed=true)
  (h6:attributeBase o nm env (eval o env)=eval o env:=by with_unfolding_all rfl):∀Ψ:AV→aF→Prop,Ψ v σ→WE c env loc σ (.Attribute o nm pos) Ψ:=λ Ψ hΨ=>
 fO q.x q.d h3 (Bm (Gm c.w) h4) h5 ho hΨ h6
theorem wT {o:Expr} {nm:Str} {v:AV} {pos:Pos} {Ψ:AV→aF→Prop} (q:cL k L a z V l σ) (ho:∀Ψ:AV→aF→Prop,Ψ (.ref a.X) σ→WE c env loc σ o Ψ) (h3:(nN L a V).lookup nm=some v) (h4:([z46,z47,z25,z60,z59].contains nm)=true) (h5:v.handed=true) (hΨ:Ψ v σ)
  (h6:attributeBase o nm env (eval o env)=eval o env:=by with_unfolding_all rfl):WE c env loc σ (.Attribute o nm pos) Ψ:=gR q ho h3 h4 h5 h6 Ψ hΨ
end
theorem fU (w:World):([(z39,89),(z40,96),(z41,103),(z42,108),(z43,113)].all λ p=>iL (KK w) 130 p.1 p.2)=true:=by kernel_rfl
theorem vU (w:World):∀z:Bool,([(z20,zF z),(z21,42)].all λ p=>iL (KK w) (zC z) p.1 p.2)=true
 | true=>by kernel_rfl
 | false=>by kernel_rfl
theorem lZ {z:Bool}:∀{os:List (Option Nat)},os.any (· ==none)=true→val z os=none
 | [],h=>by cases h
 | none::_,_=>rfl
 | some v::r,h=>by
  have h':r.any (· ==none)=true:=by simpa using h
  unfold val
  rw[lZ h']
theorem lY {z:Bool}:∀{os:List (Option Nat)},os.any (· ==none)=false→∃vs:List Nat,os=vs.map some∧val z os=some (Wj z vs)
 | [],_=>⟨[],rfl,by cases z<;>rfl⟩
 | none::_,h=>by simp at h
 | some v::r,h=>by
  have h':r.any (· ==none)=false:=by simpa using h
  obtain ⟨vs,rfl,e⟩:=lY (z:=z) h'
  refine ⟨v::vs,rfl,?_⟩
  unfold val
  rw[e]
  cases z<;>rfl
theorem qN:∀vs:List Nat,(vs.map λ v:Nat=>(v:Int)).sum=((vs.sum:Nat):Int)
 | []=>rfl
 | v::r=>by rw[List.map_cons,List.sum_cons,List.sum_cons,qN r];exact Ru
theorem iM:∀{vs:List Nat} {v:Nat},v∈vs→v≤vs.foldr max 0
 | x::r,v,h=>by
  rw[List.foldr_cons]
  rcases List.mem_cons.mp h with rfl | h
  ·exact Nat.le_max_left ..
  ·exact Nat.le_trans (iM h) (Nat.le_max_right ..)
theorem hM:∀vs:List Nat,vs.foldr max 0=0∨vs.foldr max 0∈vs
 | []=>.inl rfl
 | x::r=>by
  rw[List.foldr_cons]
  rcases hM r with h | h
  ·rw[h,Nat.max_zero];exact .inr List.mem_cons_self
  ·by_cases e:x≤r.foldr max 0
   ·rw[Nat.max_eq_right e];exact .inr (List.mem_cons_of_mem _ h)
   ·rw[Nat.max_eq_left (by exact Jf e)];exact .inr List.mem_cons_self
theorem vP (vs:List Nat):(vs.map some).map cV=aS (vs.map λ v:Nat=>(v:Int)):=by
 unfold aS
 rw[List.map_map,List.map_map];rfl
theorem iK (os:List (Option Nat)):os.map cV=(os.map (Option.map λ v:Nat=>(v:Int))).map Ab:=by rw[List.map_map];rfl
theorem sU (os:List (Option Nat)):((os.map (Option.map λ v:Nat=>(v:Int))).any (· ==none))=os.any (· ==none):=by
 rw[List.any_map]
 congr 1
 funext o
 cases o<;>rfl
noncomputable def C4:Option Nat→Option Nat→Option Nat
 | none,b=>b
 | a,none=>a
 | some a,some b=>some (min a b)
section
variable {c:Cx} {σ:aF} {Φ:AV→aF→Prop} {A lv:Addr} {t:Tg} {os:List (Option Nat)} {op:AV}
theorem Hj (hc:1≤c.n) (hl:σ lv=some (t,.list (os.map cV))) (hb:∀v,some v∈os→v≤1000000) (hz:os.length≤1000) (h:Φ (cV ((val true os).map (· +1))) σ):gG c σ (.ref 63) [.ref A,op,.ref lv] Φ:=by
 rw[iK] at hl
 refine (kJ c.w).call hc rfl λ K=>aE (aR (iE (aT (eP (aC rfl rfl (nI hl ⟨_,rfl,?_⟩))))))
 rw[sU]
 cases e:os.any (· ==none) with
 | true=>
  rw[lZ e] at h
  exact eP ⟨_,rfl,h⟩
 | false=>
  obtain ⟨vs,rfl,e2⟩:=lY (z:=true) e
  rw[←iK,vP] at hl
  refine aU (aY (bP (cE c.w 4 rfl) rfl aK (aA (aC rfl rfl (aB (vI hl (λ x hx=>?_) (by rw[List.length_map] at hz⊢;exact hz) (eX ⟨_,rfl,?_⟩)))))))
  ·obtain ⟨v,hv,rfl⟩:=List.mem_map.mp hx
   have:=hb v (List.mem_map.mpr ⟨v,hv,rfl⟩)
   exact AA this
  ·rw[e2] at h
   rw[qN,show (1:Int)+((vs.sum:Nat):Int)=((Wj true vs+1:Nat):Int) by show _=((vs.sum+1:Nat):Int);exact Fl]
   exact h
theorem Er (hc:1≤c.n) (hl:σ lv=some (t,.list (os.map cV))) (hz:os.length≤1000) (h:∀σ',fQ σ σ'→(∀b y,σ b=some y→σ' b=some y)→Φ (cV ((val false os).map (· +1))) σ'):gG c σ (.ref 35) [.ref A,op,.ref lv] Φ:=by
 rw[iK] at hl
 refine (jN c.w).call hc rfl λ K=>aE (aR (iE (aT (eP (aC rfl rfl (nI hl ⟨_,rfl,?_⟩))))))
 rw[sU]
 cases e:os.any (· ==none) with
 | true=>
  rw[lZ e] at h
  exact eP ⟨_,rfl,h σ (.refl σ) λ _ _ e=>e⟩
 | false=>
  obtain ⟨vs,rfl,e2⟩:=lY (z:=false) e
  rw[←iK,vP] at hl
  refine aU (aY (bP (cE c.w 2 rfl) rfl aK (aA (aU (aC rfl rfl (bV (.t 0) (aA (aY (aB ⟨by simp,λ D hD=>?_⟩)))))))))
  refine mF (.t 0) (aF.put_new _ hD hl) (aF.put_same ..) (by rw[aN,List.length_map];rw[List.length_map] at hz;simp;exact Mi hz) λ D2 hD2=>aB ?_
  rw[show aS (vs.map λ v:Nat=>(v:Int))++[AV.int 0]=aS ((vs.map λ v:Nat=>(v:Int))++[0]) by rw[aS,aS,List.map_append];rfl]
  refine vK (aF.put_same ..) (by simp) λ m hm1 hm2=>eX ⟨_,rfl,?_⟩
  have hm:m=((vs.foldr max 0:Nat):Int):=by
   refine Int.le_antisymm ?_ ?_
   ·rcases List.mem_append.mp hm1 with hx | hx
    ·obtain ⟨v,hv,rfl⟩:=List.mem_map.mp hx
     exact Int.ofNat_le.mpr (iM hv)
    ·rw[List.mem_singleton.mp hx];exact J0
   ·rcases hM vs with h0 | h0
    ·rw[h0];exact hm2 0 (by simp)
    ·exact hm2 _ (List.mem_append_left _ (List.mem_map.mpr ⟨_,h0,rfl⟩))
  subst hm
  rw[e2] at h
  rw[show (1:Int)+((vs.foldr max 0:Nat):Int)=((Wj false vs+1:Nat):Int) by show _=((vs.foldr max 0+1:Nat):Int);exact Fl]
  exact h _ (((fQ.refl σ).put (.inl hD)).put (.inl hD2)) λ b y e=>aF.put_new _ hD2 (aF.put_new _ hD e)
theorem uU (hc:1≤c.n) {x y:Option Nat} (h:Φ (cV (C4 x y)) σ):gG c σ (.ref 42) [.ref A,cV x,cV y] Φ:=by
 refine (kK c.w).call hc rfl λ K=>aE (eG (kF ?_))
 have ne:∀o:Option Nat,cV o≠ .any:=λ o=>by cases o<;>nofun
 refine aT (aC rfl rfl (eP (uN ⟨_,rfl,?_⟩ (ne x))))
 cases x with
 | none=>
  rw[if_neg (by decide)]
  refine aE (aR (iE (aT (aC rfl rfl (eP (uN ⟨_,rfl,?_⟩ (ne none)))))))
  rw[if_pos (by rfl)]
  exact aC rfl rfl ⟨_,rfl,h⟩
 | some u=>
  rw[if_pos (by rfl)]
  refine aT (aC rfl rfl (eP (uN ⟨_,rfl,?_⟩ (ne y))))
  cases y with
  | none=>
   rw[if_neg (by decide)]
   refine aE (aR (iE (aT (aC rfl rfl (eP (uN ⟨_,rfl,?_⟩ (ne (some u))))))))
   rw[if_neg (show ¬((cV (some u)).isNone=true) from Bool.false_ne_true)]
   exact aC rfl rfl ⟨_,rfl,h⟩
  | some v=>
   rw[if_pos (by rfl)]
   refine aP (aE (aR (bP (cE c.w 3 rfl) rfl aK (aA (aC (av:=.int (u:Int)) rfl rfl (aA (aC (av:=.int (v:Int)) rfl rfl (aB (vJ ⟨_,rfl,?_⟩)))))))))
   have:(if (v:Int)<(u:Int) then (v:Int) else (u:Int))=((min u v:Nat):Int):=by
    split
    ·rw[Nat.min_eq_right (by exact Jx ‹_›)]
    ·rw[Nat.min_eq_left (by exact Jg ‹_›)]
   rw[this]
   exact h
end
section
variable {c:Cx} {σ:aF} {Φ:AV→aF→Prop} {k:Nat} {L:HL} {M:HM} {a:KA} {z:Bool} {V:Addr} {l:List (Nat×Nat)}
theorem qQ (hc:1≤c.n) (q:aI L M σ) (r:cL k L a z V l σ) (h:Φ .none σ):gG c σ (.ref 89) [.ref a.X] Φ:=by
 refine (nU c.w).call hc rfl λ K=>aE (eG (aT (wT r (aM rfl rfl) rfl rfl rfl (kU q (gR r (aM rfl rfl) rfl rfl rfl) rfl rfl rfl (Bx ⟨_,rfl,?_⟩)))))
 rw[if_neg (by decide)]
 exact aP (aP ⟨_,rfl,h⟩)
theorem Ec (hc:4≤c.n) (q:aI L M σ) (o:gH M) (r:cL k L a z V l σ) {n:Nat} (hn:n<M.up.length) (h:Φ (cV (l.lookup (root M.up n))) σ):gG c σ (.ref 96) [.ref a.X,.int n] Φ:=by
 refine (sB c.w).call (c1 hc) rfl λ K=>aE (bA (bG r.x r.d rfl (gX (fU c.w) 0 rfl) (aM rfl rfl) (aB ?_)))
 refine qQ (c:=c.deep _) (cn hc) q r (aE (aR (cO (oS r.v) (gR r (aM rfl rfl) rfl rfl rfl) (aA ?_))))
 refine bG (q.at 1) (q.at 2) rfl (gX (cS c.w) 0 rfl) (gR r (aM rfl rfl) rfl rfl rfl) (aA (aC rfl rfl (aB ?_)))
 refine fY (c:=c.deep _) (cn hc) q o.up o.z hn λ _ _=>aB (iJ r.v ⟨_,rfl,?_⟩)
 rw[gQ];exact h
end
noncomputable abbrev Dt:=List (Nat×Nat)
noncomputable def dZ (l:Dt) (k v:Nat):Dt:=if l.any (λ e=>decide (e.1=k)) then l.map (λ e=>if e.1=k then (e.1,v) else e) else l++[(k,v)]
theorem tZ (l:Dt) (k:Nat):l.any (λ e=>decide (e.1=k))=(l.lookup k).isSome:=by
 induction l with
 | nil=>rfl
 | cons p r ih=>
  rw[List.any_cons,List.lookup_cons,ih]
  by_cases e:p.1=k
  ·simp[e]
  ·have e2:(k==p.1)=false:=by simpa using λ z=>e z.symm
   simp[e,e2]
theorem cF (l:Dt) (k v x:Nat):(dZ l k v).lookup x=if x=k then some v else l.lookup x:=by
 unfold dZ
 cases h:l.any (λ e=>decide (e.1=k)) with
 | true=>
  rw[if_pos rfl]
  induction l with
  | nil=>cases h
  | cons p r ih=>
   rw[List.map_cons]
   by_cases e:p.1=k
   ·rw[if_pos e,List.lookup_cons,List.lookup_cons]
    by_cases e2:x=k
    ·subst e2;rw[if_pos rfl];simp[e]
    ·have e3:(x==p.1)=false:=by rw[e];simpa using e2
     rw[if_neg e2]
     simp only[e3]
     cases h':r.any (λ e=>decide (e.1=k)) with
     | true=>rw[ih h',if_neg e2]
     | false=>
      congr 1
      conv=>rhs;rw[←List.map_id r]
      refine List.map_congr_left λ q hq=>if_neg λ e4=>?_
      have:=List.any_eq_false.mp h' q hq
      simp[e4] at this
   ·rw[if_neg e,List.lookup_cons,List.lookup_cons,ih (by simpa [e] using h)]
    by_cases e2:x=k
    ·subst e2
     have e3:(x==p.1)=false:=by simpa using λ z=>e z.symm
     rw[e3]
    ·simp only[if_neg e2]
 | false=>
  rw[if_neg (by simp),List.lookup_append]
  by_cases e:x=k
  ·subst e
   have:=tZ l x
   rw[h] at this
   have h0:l.lookup x=none:=by cases h1:l.lookup x with | none=>rfl | some _=>rw[h1] at this;cases this
   rw[h0,if_pos rfl];simp
  ·rw[if_neg e]
   have:([(k,v)]:Dt).lookup x=none:=by rw[List.lookup_cons,show (x==k)=false by simpa using e];rfl
   rw[this];cases l.lookup x<;>rfl
theorem mW (l:Dt) (k v:Nat):pE (lO l) (k:Int) (.int (v:Int))=lO (dZ l k v):=by
 unfold pE dZ
 have:(lO l).any (λ e=>decide (e.1=(k:Int)))=l.any λ e=>decide (e.1=k):=by
  unfold lO
  rw[List.any_map]
  congr 1
  funext p
  show decide ((p.1:Int)=(k:Int))=decide (p.1=k)
  exact decide_eq_decide.mpr Int.natCast_inj
 rw[this]
 split
 ·unfold lO
  rw[List.map_map,List.map_map]
  refine List.map_congr_left λ p _=>?_
  show (if (p.1:Int)=(k:Int) then ((p.1:Int),AV.int (v:Int)) else ((p.1:Int),.int (p.2:Int)))=(((if p.1=k then (p.1,v) else p).1:Int),AV.int ((if p.1=k then (p.1,v) else p).2:Int))
  by_cases e:p.1=k
  ·rw[if_pos e,if_pos (Int.natCast_inj.mpr e)]
  ·rw[if_neg e,if_neg λ z=>e (Int.natCast_inj.mp z)]
 ·unfold lO
  rw[List.map_append];rfl
structure xD (N:Nat) (l:Dt):Prop where
 nd:(l.map (·.1)).Nodup
 lt:∀p∈l,p.1<N∧p.2≤1000000
theorem fV:∀{l:Dt} {k v:Nat},l.lookup k=some v→(k,v)∈l
 | (a,b)::r,k,v,h=>by
  rw[List.lookup_cons] at h
  by_cases e:k=a
  ·subst e
   simp only[beq_self_eq_true] at h
   cases h
   exact List.mem_cons_self
  ·have e2:(k==a)=false:=by simpa using e
   rw[e2] at h
   exact List.mem_cons_of_mem _ (fV h)
theorem xD.put {N:Nat} {l:Dt} (d:xD N l) {k v:Nat} (hk:k<N) (hv:v≤1000000):xD N (dZ l k v):=by
 unfold dZ
 split
 ·refine ⟨?_,λ p hp=>?_⟩
  ·have:(l.map λ e=>if e.1=k then (e.1,v) else e).map (·.1)=l.map (·.1):=by
    rw[List.map_map]
    refine List.map_congr_left λ p _=>?_
    show (if p.1=k then (p.1,v) else p).1=p.1
    split<;>rfl
   rw[this];exact d.nd
  ·obtain ⟨q,hq,rfl⟩:=List.mem_map.mp hp
   split
   ·exact ⟨(d.lt q hq).1,hv⟩
   ·exact d.lt q hq
 ·rename_i h
  refine ⟨?_,λ p hp=>?_⟩
  ·rw[List.map_append,List.nodup_append]
   refine ⟨d.nd,List.nodup_cons.mpr ⟨List.not_mem_nil,List.nodup_nil⟩,λ a ha b hb e=>h ?_⟩
   have hb':b=k:=List.mem_singleton.mp hb
   subst e hb'
   obtain ⟨p,hp,e⟩:=List.mem_map.mp ha
   exact List.any_eq_true.mpr ⟨p,hp,decide_eq_true e⟩
  ·rcases List.mem_append.mp hp with hp | hp
   ·exact d.lt p hp
   ·rw[List.mem_singleton] at hp;subst hp;exact ⟨hk,hv⟩
theorem xD.few {N:Nat} {l:Dt} (d:xD N l):l.length≤N:=by
 have:=mG d.nd (s:=List.range N) λ x hx=>by
  obtain ⟨p,hp,rfl⟩:=List.mem_map.mp hx
  exact List.mem_range.mpr (d.lt p hp).1
 rw[List.length_map,List.length_range] at this
 exact this
theorem mX (l:Dt):(lO l).length=l.length:=List.length_map ..
theorem qU {x y:Option Nat} {u:Nat} (h:C4 x y=some u):x=some u∨y=some u:=by
 cases x with
 | none=>exact .inr h
 | some a=>cases y with
  | none=>exact .inl h
  | some b=>
   have h':min a b=u:=Option.some.inj h
   by_cases e:a≤b
   ·rw[Nat.min_eq_left e] at h';exact .inl (congrArg some h')
   ·rw[Nat.min_eq_right (by exact Jf e)] at h';exact .inr (congrArg some h')
theorem vR {x y:Option Nat} {v:Nat} (h:x=some v):∃u,u≤v∧C4 x y=some u:=by
 subst h
 cases y with
 | none=>exact ⟨v,Nat.le_refl _,rfl⟩
 | some b=>exact ⟨min v b,Nat.min_le_left ..,rfl⟩
theorem vQ {x y:Option Nat} {v:Nat} (h:y=some v):∃u,u≤v∧C4 x y=some u:=by
 subst h
 cases x with
 | none=>exact ⟨v,Nat.le_refl _,rfl⟩
 | some b=>exact ⟨min b v,Nat.min_le_right ..,rfl⟩
structure xE (r:Nat→Nat) (f g:Dt) (done:Nat→Prop):Prop where
 low:∀c v,done c→f.lookup c=some v→∃u,u≤v∧g.lookup (r c)=some u
 src:∀x u,g.lookup x=some u→∃c,f.lookup c=some u∧r c=x
section
variable {c:Cx} {σ:aF} {Φ:AV→aF→Prop} {k:Nat} {L:HL} {M:HM} {a:KA} {z:Bool} {V:Addr} {l:Dt}
theorem Bu (w:World):findIn (KK w) (.ref 130) "__setattr__"=some (some (.builtin "object.__setattr__"))∧plainOver (KK w) 130=true∧takerIn (KK w) 130 z25=some none∧hasDictIn (KK w) 130=true:=⟨by kernel_rfl,by kernel_rfl,by kernel_rfl,by kernel_rfl⟩
theorem cL.setV (r:cL k L a z V l σ) {F:Addr} {f:Dt} (hF:σ F=some (.u 5 k,.idict (lO f))):cL k L a z F f (σ.put a.d (.u 4 k,.ns (nN L a F))):=
 have h:=r.d
 ⟨aF.put_tag _ h r.x (dK rfl),aF.put_same ..,aF.put_tag _ h hF (dK rfl),aF.put_tag _ h r.an (dK rfl),aF.put_tag _ h r.da (dK rfl)⟩
theorem cL.other (r:cL k L a z V l σ) {F:Addr} {ao:AO} {y:AO} (hF:σ F=some (.u 5 k,ao)) (hne:V≠F):cL k L a z V l (σ.put F (.u 5 k,y)):=
 ⟨aF.put_tag _ hF r.x (dK rfl),aF.put_tag _ hF r.d (dK rfl),by rw[aF.put_ne _ _ hne];exact r.v,aF.put_tag _ hF r.an (dK rfl),aF.put_tag _ hF r.da (dK rfl)⟩
theorem aI.other (q:aI L M σ) {F:Addr} {ao y:AO} {i j:Nat} (hi:3≤i) (hF:σ F=some (.u i j,ao)):aI L M (σ.put F (.u i j,y)) where
 fix:=λ n t b bo hn e=>by
  have:=cW e
  dsimp only at this
  subst this
  exact aF.put_tag _ hF (q.fix n _ b bo hn e) (dK rfl)
 lot:=λ n b l e=>aF.put_tag _ hF (q.lot n b l e) (λ x=>by cases x;exact lq1 hi)
 abv:=λ n b l e=>aF.put_tag _ hF (q.abv n b l e) (λ x=>by cases x;exact lq2 hi)
theorem zE (hc:4≤c.n) (q:aI L M σ) (o:gH M) (r:cL k L a z V l σ) (d:xD M.up.length l)
  (h:∀σ' V' l',gW k σ σ'→aI L M σ'→cL k L a z V' l' σ'→xD M.up.length l'→xE (root M.up) l l' (λ _=>True)→Φ .none σ'):gG c σ (.ref 103) [.ref a.X] Φ:=by
 have hfew:=o.few
 have hlen:=d.few
 refine (sC c.w).call (c1 hc) rfl λ K=>aE (bA (bG r.x r.d rfl (gX (fU c.w) 0 rfl) (aM rfl rfl) (aB ?_)))
 refine qQ (c:=c.deep _) (cn hc) q r (aE (aJ (iF (.u 5 k) λ F hF=>bX rfl rfl ?_)))
 have VF:V≠F:=λ e=>by rw[←e,r.v] at hF;cases hF
 have r1:=r.new hF (.u 5 k,.idict [])
 have q1:=q.new hF (.u 5 k,.idict [])
 have E1:gW k σ (σ.put F (.u 5 k,.idict [])):=(gW.refl σ).put (.inl hF)
 have hF1:(σ.put F (.u 5 k,.idict [])) F=some (.u 5 k,.idict (lO [])):=aF.put_same ..
 refine aE (lT (bP (iB c.w) rfl aK (aA (wT r1 (aM rfl rfl) rfl rfl rfl (aB (Ae (.t 0) r1.v (by rw[mX];exact Sq hfew hlen) λ D ns hD hp _=>?_))))))
 refine ⟨_,_,eU rfl (aF.put_same ..),λ i loc σ'=>loc z23=some (.ref a.X)∧loc z52=some (.ref F)∧∃f,gW k σ σ'∧aI L M σ'∧cL k L a z V l σ'∧σ' F=some (.u 5 k,.idict (lO f))∧xD M.up.length f∧
  xE (root M.up) l f (λ c=>(c:Int)∈ns.take i),⟨rfl,rfl,[],?_,?_,?_,?_,⟨List.nodup_nil,nn⟩,⟨nofun,nofun⟩⟩,?_,?_⟩
 ·exact (E1.put (.inl hD)).del (aF.put_same ..) rfl
 ·exact (q1.new hD _).del (aF.put_same ..) (λ i hi e=>by cases e;exact hi rfl) nofun
 ·have hs:=aF.put_same (σ.put F (.u 5 k,.idict [])) D ((Tg.t 0),AO.list (aS ns))
  have r2:=r1.new hD (.t 0,.list (aS ns))
  exact ⟨aF.del_tag hs r2.x (dK rfl),aF.del_tag hs r2.d (dK rfl),aF.del_tag hs r2.v (dK rfl),aF.del_tag hs r2.an (dK rfl),aF.del_tag hs r2.da (dK rfl)⟩
 ·exact aF.del_tag (aF.put_same ..) (aF.put_new _ hD hF1) (dK rfl)
 ·rintro i x loc σ' hx ⟨h1,h2,f,E',q',r',hF',df,bf⟩
  rw[aS,List.getElem?_map] at hx
  obtain ⟨m,hm,rfl⟩:=Option.map_eq_some_iff.mp hx
  obtain ⟨p,hpm,rfl⟩:=List.mem_map.mp (hp.mem_iff.mp (List.mem_of_getElem? hm))
  obtain ⟨⟨c0,v0⟩,hpl,rfl⟩:=List.mem_map.mp hpm
  have hlk:l.lookup c0=some v0:=dX (p:=(c0,v0)) d.nd hpl
  obtain ⟨hc0,hv0⟩:=d.lt _ hpl
  dsimp only at hc0 hv0
  refine bX rfl rfl (aE (aJ (bG (q'.at 1) (q'.at 2) rfl (gX (cS c.w) 0 rfl) (gR r' (aM h1 rfl) rfl rfl rfl) (aA (aC rfl rfl (aB ?_))))))
  refine fY (c:=c.deep _) (cn hc) q' o.up o.z hc0 λ hrl hr=>bX rfl rfl ?_
  refine aE (aJ (bG r'.an r'.da rfl (gX (vU c.w z) 1 rfl) (gR r' (aM h1 rfl) rfl rfl rfl) (aA (cO (oS hF') (aM h2 rfl) (aA (aC rfl rfl (aB (iJ hF' ?_))))))))
  refine aA (bF (wT r' (aM h1 rfl) rfl rfl rfl (aC rfl rfl (fN (x:=.int (v0:Int)) r'.v (by rw[kC,hlk];rfl) (aB ?_)))))
  rw[gQ]
  refine uU (c:=c.deep _) (cn hc) (x:=f.lookup (root M.up c0)) (y:=some v0) ?_
  obtain ⟨u,hu,eu⟩:=vQ (x:=f.lookup (root M.up c0)) (y:=some v0) rfl
  rw[eu]
  refine gU (aC h2 rfl (aC rfl rfl (eS hF' (Nat.le_trans (Nat.le_of_eq (mX f)) (Nat.le_trans df.few (by exact Nat.le_trans ‹_› (Nat.le_of_ble_eq_true rfl)))) (mW f (root M.up c0) u) ?_)))
  refine aP ⟨h1,h2,dZ f (root M.up c0) u,E'.put (.inr ⟨_,_,by unfold jA;simp,hF'⟩),q'.other (by decide) hF',r'.other hF' VF,aF.put_same ..,df.put hrl (by exact Nat.le_trans ‹_› ‹_›),λ c1 v1 hc1 hv1=>?_,λ x w hw=>?_⟩
  ·rw[cF]
   rw[List.take_add_one,hm,List.mem_append] at hc1
   rcases hc1 with hc1 | hc1
   ·obtain ⟨w,hw1,hw2⟩:=bf.low c1 v1 hc1 hv1
    by_cases e:root M.up c1=root M.up c0
    ·rw[if_pos e]
     rw[e] at hw2
     obtain ⟨w',hw',ew⟩:=vR (y:=some v0) hw2
     rw[ew] at eu;cases eu
     exact ⟨_,Nat.le_trans hw' hw1,rfl⟩
    ·rw[if_neg e];exact ⟨w,hw1,hw2⟩
   ·have e:c1=c0:=Int.ofNat.inj (List.mem_singleton.mp hc1)
    subst e
    rw[if_pos rfl]
    rw[hlk] at hv1;cases hv1
    exact ⟨u,hu,rfl⟩
  ·rw[cF] at hw
   by_cases e:x=root M.up c0
   ·rw[if_pos e] at hw
    cases hw
    rcases qU eu with h3 | h3
    ·obtain ⟨c2,h4,h5⟩:=bf.src _ _ h3
     exact ⟨c2,h4,h5.trans e.symm⟩
    ·cases h3;exact ⟨c0,hlk,e.symm⟩
   ·rw[if_neg e] at hw;exact bf.src x w hw
 ·rintro loc σ' ⟨h1,h2,f,E',q',r',hF',df,bf⟩
  refine aE (aJ (aC h2 rfl (Ck (aC h1 rfl ⟨a.X,130,a.d,_,_,_,rfl,r'.x,r'.d,(show 5≤100 by decide),(Bu c.w).1,(Bu c.w).2.1,(Bu c.w).2.2.1,(Bu c.w).2.2.2,?_⟩))))
  have q'':=q'.other (y:=.ns (nN L a F)) (by decide:3≤4) r'.d
  refine aP ⟨_,rfl,h _ F f (E'.put (.inr ⟨_,_,by unfold jA;simp,r'.d⟩)) q'' (r'.setV hF') df ⟨λ c1 v1 _ hv=>bf.low c1 v1 ?_ hv,bf.src⟩⟩
  have hm:=fV hv
  rw[aN,List.take_length]
  exact hp.mem_iff.mpr (List.mem_map.mpr ⟨_,List.mem_map.mpr ⟨_,hm,rfl⟩,rfl⟩)
end
noncomputable abbrev lk (l:Dt):Nat→Option Nat:=λ k=>l.lookup k
structure Lh (ns:iT) (z:Bool) (r:Nat→Nat) (l:Dt) (c:Nat) (seen:Nat→Prop) (R:Option Nat):Prop where
 own:∀v,l.lookup c=some v→∃u,u≤v∧R=some u
 low:∀b x,b<ns.length→r b=c→seen b→nB ns z r (lk l) b=some x→∃u,u≤x∧R=some u
 src:∀u,R=some u→l.lookup c=some u∨∃b,b<ns.length∧r b=c∧nB ns z r (lk l) b=some u
theorem Db {a b:cH} (h:cH.av a=cH.av b):a=b:=by
 unfold cH.av at h
 have h':=AV.tup.inj h
 clear h
 induction a generalizing b with
 | nil=>cases b with
  | nil=>rfl
  | cons _ _=>cases h'
 | cons x r ih=>cases b with
  | nil=>cases h'
  | cons y s=>
   rw[List.map_cons,List.map_cons,List.cons.injEq] at h'
   have:x=y:=by
    cases x<;>cases y
    ·exact congrArg bZ.s (AV.str.inj h'.1)
    ·cases h'.1
    ·cases h'.1
    ·exact congrArg bZ.i (AV.int.inj h'.1)
   rw[this,ih h'.2]
theorem G5 {M:HM} {z:Bool} {l:Dt} {b b':Nat} (h:M.keyAt b=M.keyAt b'):nB M.nodes z (root M.up) (lk l) b=nB M.nodes z (root M.up) (lk l) b':=by
 have e:=(jH h).2
 have e2:∀b,((aL M.nodes b).map λ k=>lk l (root M.up k))=((aL M.nodes b).map (root M.up)).map (lk l):=λ b=>by rw[List.map_map];rfl
 unfold nB
 rw[e2,e2,e]
section
variable {c:Cx} {σ:aF} {Φ:AV→aF→Prop} {k:Nat} {L:HL} {M:HM} {a:KA} {z:Bool} {V:Addr} {l:Dt}
theorem Mb (hc:1≤c.n) {A lv:Addr} {t:Tg} {os:List (Option Nat)} {op:AV} (hl:σ lv=some (t,.list (os.map cV))) (hb:∀v,some v∈os→v≤1000000) (hz:os.length≤1000) (h:∀σ',fQ σ σ'→(∀b y,σ b=some y→σ' b=some y)→Φ (cV ((val z os).map (· +1))) σ'):
  gG c σ (.ref (zF z)) [.ref A,op,.ref lv] Φ:=by
 cases z with
 | true=>exact Hj hc hl hb hz (h σ (.refl σ) λ _ _ e=>e)
 | false=>exact Er hc hl hz h
theorem aI.more {σ':aF} (q:aI L M σ) (h:∀b y,σ b=some y→σ' b=some y):aI L M σ':=
 ⟨λ i t b ao hi e=>h _ _ (q.fix i t b ao hi e),λ i b l e=>h _ _ (q.lot i b l e),λ i b l e=>h _ _ (q.abv i b l e)⟩
theorem xL (hc:5≤c.n) (q:aI L M σ) (o:gH M) (r:cL k L a z V l σ) (d:xD M.up.length l) {n:Nat} (hn:n<M.up.length) (hr:root M.up n=n)
  (h:∀σ' R,fQ σ σ'→aI L M σ'→Lh M.nodes z (root M.up) l n (λ _=>True) R→Φ (cV R) σ'):gG c σ (.ref 108) [.ref a.X,.int n] Φ:=by
 have hfew:=o.few
 refine (mY c.w).call (c1 hc) rfl λ K=>aE (aJ (cO (oS r.v) (gR r (dH (a:=K+1) rfl (.inl rfl) rfl) rfl rfl rfl) (aA (aC rfl rfl (aB (iJ r.v ?_))))))
 rw[gQ]
 refine eJ rfl ?_ (by intro b hb;have:=List.mem_singleton.mp hb;cases this)
 refine aE (lT (bG (q.at 1) (q.at 2) rfl (gX (cS c.w) 8 rfl) (gR r (dH (a:=K+1) rfl (.inl rfl) rfl) rfl rfl rfl) (aA (aC rfl rfl (aB ?_)))))
 refine xS (c:=c.deep _) (cn hc) q o hn λ σ1 D ys E1 q1 hys hyl hD=>?_
 have r1:=r.ext E1
 refine ⟨_,_,eU rfl hD,λ i loc σ'=>loc z23=some (.ref a.X)∧∃R,loc z52=some (cV R)∧fQ σ σ'∧aI L M σ'∧Lh M.nodes z (root M.up) l n (λ b=>(M.keyAt b).av∈ys.take i) R,⟨rfl,l.lookup n,rfl,?_,?_,?_⟩,?_,?_⟩
 ·exact E1.del hD rfl
 ·exact q1.del hD (λ i hi e=>by cases e;exact hi rfl) nofun
 ·exact ⟨λ v hv=>⟨v,Nat.le_refl _,hv⟩,nofun,λ u hu=>.inl hu⟩
 ·rintro i y loc σ' hy ⟨h1,R,h2,E',q',rk⟩
  have r':=r.ext E'
  obtain ⟨b,hb,hrb,rfl⟩:=(hys y).mp (List.mem_of_getElem? hy)
  have hav:(M.keyAt b).av= .tup (.str (qS M.nodes b)::aS (aQ ((aL M.nodes b).map (root M.up)))):=gI _
  rw[hav]
  refine eJ rfl ?_ (by intro b hb;have:=List.mem_singleton.mp hb;cases this)
  have kl:(aL M.nodes b).length≤3:=by
   have hb':b<M.nodes.length:=by rw[o.nodes];exact hb
   unfold aL
   rw[List.getD_eq_getElem?_getD,List.getElem?_eq_getElem hb',List.length_map]
   exact (o.kids b _ (List.getElem?_eq_getElem hb')).1
  have l3:(aS (aQ ((aL M.nodes b).map (root M.up)))).length=(aL M.nodes b).length:=by rw[aN,aQ,List.length_map,List.length_map]
  refine aE (kT (cl:=[(z23,K+1)]) (bY.of (by kernel_rfl) rfl (λ p hp=>hp) (List.pairwise_singleton _ _)) (.t 0) ?_ rfl rfl (by intro b hb;have:=List.mem_singleton.mp hb;cases this))
  refine gS (aC rfl rfl ⟨_,_,rfl,_,_,dQ rfl,by rw[l3];exact vW kl,λ j acc σ''=>σ'=σ''∧acc=(((aL M.nodes b).take j).map λ k=>l.lookup (root M.up k)).map cV,⟨⟨rfl,rfl⟩,?_⟩,?_⟩)
  ·rintro C j y acc _ hy ⟨rfl,rfl⟩
   rw[aS,aQ,List.getElem?_map,List.getElem?_map,List.getElem?_map] at hy
   obtain ⟨x1,hx1,rfl⟩:=Option.map_eq_some_iff.mp hy
   obtain ⟨x2,hx2,rfl⟩:=Option.map_eq_some_iff.mp hx1
   obtain ⟨kd,hkd,rfl⟩:=Option.map_eq_some_iff.mp hx2
   refine cO (oS r'.v) (gR r' (dH (a:=K+1) h1 (.inl rfl) rfl) rfl rfl rfl) (aA (aC (if_pos rfl) rfl (aB (iJ r'.v ⟨rfl,?_⟩))))
   rw[gQ,List.take_add_one,hkd,List.map_append,List.map_append];rfl
  ·rintro acc _ D2 ⟨rfl,rfl⟩ hl2 hD2
   rw[l3,List.take_length]
   have q2:=q'.new hD2 (.t 0,.list (((aL M.nodes b).map λ k=>l.lookup (root M.up k)).map cV))
   have r2:=r'.new hD2 (.t 0,.list (((aL M.nodes b).map λ k=>l.lookup (root M.up k)).map cV))
   have E2:=E'.put (a:=D2) (y:=(.t 0,.list (((aL M.nodes b).map λ k=>l.lookup (root M.up k)).map cV))) (.inl hD2)
   refine aE (aJ (bG r2.an r2.da rfl (gX (vU c.w z) 1 rfl) (gR r2 (dH (a:=K+1) h1 (.inl rfl) rfl) rfl rfl rfl) (aA (aC h2 rfl (aA ?_)))))
   refine bG r2.an r2.da rfl (gX (vU c.w z) 0 rfl) (gR r2 (dH (a:=K+1) h1 (.inl rfl) rfl) rfl rfl rfl) (aA (bF (aC rfl rfl (aY (mM (i:=0) rfl (aA (aC rfl rfl (aB ?_))))))))
   refine Mb (c:=c.deep _) (z:=z) (cn hc) (aF.put_same ..) (λ v hv=>?_) (by rw[List.length_map];exact K2 kl) λ σ3 E3 s3=>aB ?_
   ·obtain ⟨kd,hkd,e⟩:=List.mem_map.mp hv
    exact (d.lt _ (fV e)).2
   show gG _ _ _ [_,cV R,cV (nB M.nodes z (root M.up) (lk l) b)] _
   refine uU (c:=c.deep _) (cn hc) (eJ rfl ?_ (by intro b hb;have:=List.mem_singleton.mp hb;cases this))
   refine aP ⟨h1,_,rfl,E2.trans E3,q2.more s3,λ v hv=>?_,λ b' x hb' hr' hs hx=>?_,λ u hu=>?_⟩
   ·obtain ⟨u,hu,e⟩:=rk.own v hv
    obtain ⟨w,hw,e2⟩:=vR (y:=nB M.nodes z (root M.up) (lk l) b) e
    exact ⟨w,Nat.le_trans hw hu,e2⟩
   ·rw[List.take_add_one,hy,List.mem_append] at hs
    rcases hs with hs | hs
    ·obtain ⟨u,hu,e⟩:=rk.low b' x hb' hr' hs hx
     obtain ⟨w,hw,e2⟩:=vR (y:=nB M.nodes z (root M.up) (lk l) b) e
     exact ⟨w,Nat.le_trans hw hu,e2⟩
    ·rw[G5 (Db (List.mem_singleton.mp hs))] at hx
     exact vQ hx
   ·rcases qU hu with e | e
    ·exact rk.src u e
    ·exact .inr ⟨b,by rw[o.nodes];exact hb,hrb.trans hr,e⟩
 ·rintro loc σ' ⟨h1,R,h2,E',q',rk⟩
  refine aE (aR (aC h2 rfl ⟨_,rfl,h σ' R E' q' ⟨rk.own,λ b x hb hrb _ hx=>rk.low b x hb hrb ?_ hx,rk.src⟩⟩))
  rw[List.take_length]
  exact (hys _).mpr ⟨b,by rw[←o.nodes];exact hb,hrb.trans hr.symm,rfl⟩
end
noncomputable def cK (ns:List Int):List (Int×AV):=ns.map λ n=>(n,.bool true)
section
variable {c:Cx} {env:Env} {loc:aV} {σ:aF} {ρ:dC} {s:Shared} {scope:Scope} {x:Str} {cl:List (Str×Addr)}
theorem Bf {y:Str} {tp:Pos} {s':Shared} {C D:Addr} {m:Str→Option Value} {Φ:AF→aV→aF→Prop} {h0:Heap} (q':bJ c env loc σ ρ s') (hm:s'.heap.Ns C m)
  (hC:c.h₀.get? C=none∧σ C=none∧ρ C=none∧C≠env.locals∧∀n,(n,C)∉env.cells) (hy:env.kindOf y=some .local) (hcy:∀a,(y,a)∉env.cells) (h:Φ .next (loc.put y (.ref D)) σ) (e:Ev h0 s'.heap):
  wpAny (MM c) c.A (assign (.Name y tp) env (.ref D)) (λ _ s''=>∃m,s''.heap.Ns C m∧∀h',Heap.SameBut C s''.heap h'→cY c env ρ h0 Kh Φ .next {s'' with heap:=h'}) gD s':=by
 have hapC:kW c env ρ [C]:=λ b hb=>by
  rw[List.mem_singleton] at hb;subst hb
  exact ⟨hC.1,hC.2.2.1,hC.2.2.2.1,hC.2.2.2.2⟩
 have q'':bJ c env loc σ (ρ.over [C] s'.heap) s':=(q'.hide hapC).ext λ b=>by
  unfold aF.hide
  by_cases w:b=C
  ·subst w;rw[if_pos (by simp),hC.2.1]
  ·rw[if_neg (by simpa using w)]
 refine wpAny_assign_Name (Gy (eR (ΦA:=λ l σ''=>l=loc.put y (.ref D)∧σ''=σ) hy hcy ⟨rfl,rfl⟩ _ s' (.ref D) q'' (by simp)) (λ _ s'' _ l σ3 _ hz4 q3 e3=>?_))
 obtain ⟨el,eσ⟩:=hz4
 subst el eσ
 obtain ⟨oC,es,ep,hoC,hdC,r⟩:=hm
 have hoC':s''.heap.get? C=some oC:=q3.hid C oC (by unfold dC.over;rw[if_pos (by simp)];exact hoC)
 refine ⟨m,⟨oC,es,ep,hoC',hdC,r⟩,λ h' hs'=>?_⟩
 have eC:Ev s''.heap h':=Ev.but hoC' (λ _ z=>by subst z;cases hdC) hs'.extBut
 have eq:ρ.over [C] s'.heap=ρ.over [C] s''.heap:=funext λ b=>by
  unfold dC.over
  by_cases w:b=C
  ·subst w;rw[if_pos (by simp),if_pos (by simp),hoC,hoC']
  ·rw[if_neg (by simpa using w),if_neg (by simpa using w)]
 rw[eq] at q3
 have nC:∀b∈[C],σ3 b=none:=λ b hb=>by (rw[List.mem_singleton] at hb;subst hb;exact hC.2.1)
 have q4:=(q3.turn (s':={s'' with heap:=h'}) hapC nC rfl rfl (λ b o hb z=>hs'.extBut b o (by simpa using hb) z) eC).unhide hapC nC
 exact ⟨.next,_,_,rfl,h,q4,e.trans (e3.trans eC)⟩
theorem Eu {vs:List Value} {kvs:List (Int×Value)} (F:StoredAll (λ v k=>∃t,v=Value.int k t) (λ _ y=>y=Value.bool true) vs kvs):∀{ns:List Int},IntsAre vs ns→ns.Nodup→kvs=ns.map λ n=>(n,Value.bool true):=by
 induction F with
 | nil=>intro ns h _;cases h;rfl
 | @snoc l kvs v k y F hk hy ih=>
  intro ns h nd
  have:∀{l:List Value} {ns:List Int},IntsAre (l++[v]) ns→∃ms n t,ns=ms++[n]∧IntsAre l ms∧v= .int n t:=by
   intro l
   induction l with
   | nil=>intro ns h;cases h with | cons n t h=>cases h;exact ⟨[],n,t,rfl,.nil,rfl⟩
   | cons u r ih=>intro ns h;cases h with | cons n t h=>obtain ⟨ms,n',t',rfl,h1,h2⟩:=ih h;exact ⟨n::ms,n',t',rfl,.cons n t h1,h2⟩
  obtain ⟨ms,n,t,rfl,h1,rfl⟩:=this h
  obtain ⟨t',e⟩:=hk
  cases e
  subst hy
  rw[List.nodup_append] at nd
  rw[ih h1 nd.1]
  unfold stored
  rw[if_neg,List.map_append]
  ·rfl
  ·intro hany
   obtain ⟨p,hp,e⟩:=List.any_eq_true.mp hany
   obtain ⟨m,hm,rfl⟩:=List.mem_map.mp hp
   exact nd.2.2 m hm _ List.mem_cons_self (by simpa using e)
theorem sV {kp px ip vp pos tp spos:Pos} {kk:Nat} {y row:Str} {l:Addr} {t':Tg} {ns:List Int} {Φ:AF→aV→aF→Prop} (ok:bY env scope x cl) (t:Tg) (hrow:loc row=some (.ref l)) (hk:env.kindOf row=some .local)
  (hl:σ l=some (t',.list (aS ns))) (hnd:ns.Nodup) (hz:ns.length≤1000) (h:∀D,σ D=none→Φ .next (loc.put y (.ref D)) (σ.put D (t,.idict (cK ns))))
  (hu:swapsWith (.DictComp (.Name x kp) (.Constant (.bool true) kk vp) [⟨.Name x px,.Name row ip,[],0⟩] scope pos) (some (.Name y tp)) spos.line env=pure true)
  (hy:env.kindOf y=some .local) (hcy:∀a,(y,a)∉env.cells) (hd:(row==("__debug__":Str))=false:=by decide) (hd2:(x==("__debug__":Str))=false:=by decide)
  (hs:∀v,foldedSetIterable (.Name row ip) env v=pure v:=by intro _;rfl):WS c env loc σ (exec (.Assign [.Name y tp] (.DictComp (.Name x kp) (.Constant (.bool true) kk vp) [⟨.Name x px,.Name row ip,[],0⟩] scope pos) spos) env) Φ:=λ ρ s q=>by
 rw[exec_Assign_Name_used _ _ _ _ (hs:=hu)]
 refine wpAny_bind (wpAny_standAt (wpAny_bind ?_))
 show wpAny _ _ (do let _ ←comprehension (.DictComp (.Name x kp) (.Constant (.bool true) kk vp) [⟨.Name x px,.Name row ip,[],0⟩] scope pos) scope env _ newDict false (eval (.Name row ip) env) (some (assign (.Name y tp) env))) _ _ s
 refine wpAny_bind (wpAny_mono (wpAny_comprehension_free (use:=some (assign (.Name y tp) env)) (Q:=λ _ s'=>cY c env ρ s.heap Kh Φ .next s') rfl hs ok.clos ok.kind ok.names
  (hK (aC (ΦV:=λ a σ1=>a= .ref l∧σ1=σ) hrow hk ⟨rfl,rfl⟩ hd ρ s q) (λ xv s1 _ _ hxv hz3 q1 e1=>?_))) (λ _ s' hq=>wpAny_pure (wpAny_pure hq)) λ _ _ e=>e)
 obtain ⟨rfl,rfl⟩:=hz3
 rw[VIs_ref] at hxv;subst hxv
 obtain ⟨items,n,h1,h2⟩:=q1.obj l t' _ hl
 have hints:=gN h2
 have hlen:=h2.length
 rw[aN,Array.length_toList] at hlen
 have hlt:l<s1.heap.objs.size:=Heap.lt_size h1
 have up:∀(s3:Shared),(∀b o,b∉[s1.heap.objs.size]→(s1.heap.push {cls:=.type "list_iterator",data:=.fields #[.ref l,.int 0 0]}).get? b=some o→s3.heap.get? b=some o)→∀b o,s1.heap.get? b=some o→s3.heap.get? b=some o:=
  λ s3 hk b o e=>hk b o (λ hm=>by rcases List.mem_cons.mp hm with rfl | hm;exact Nat.lt_irrefl _ (Heap.lt_size e);cases hm) (Heap.get?_push_of_some _ e)
 have isl:s1.heap.IsList l items:=⟨_,h1,rfl,n,rfl⟩
 have isInt:∀{i:Nat} {v:Value},items[i]? =some v→∃k t,v=Value.int k t:=λ {i v} hv=>by
  obtain ⟨y,hy,hv2⟩:=h2.get' (i:=i) (v:=v) (by simpa using hv)
  rw[aS,List.getElem?_map] at hy
  obtain ⟨k,_,rfl⟩:=Option.map_eq_some_iff.mp hy
  rw[VIs_int] at hv2
  obtain ⟨t,rfl⟩:=hv2
  exact ⟨k,t,rfl⟩
 have kr:∀s:Shared,Keeps s s:=λ s=>⟨s.heap,s.toks,rfl,λ _ _ e=>e⟩
 refine wpAny_pyIter_list isl ?_
 refine comp_block_walkCD (knd:=intKind c.prog c.w) (RR:=λ acc C=>compPost (MM c) c.A gD (some (assign (.Name y tp) env)) (λ _ s'=>cY c env ρ s.heap Kh Φ .next s') acc C) (Walks.list q.base.hand _ _ (Nat.ne_of_lt hlt) items) (by rw[hlen,sizeLine_eq];exact AD hz) (λ _=>true)
  (λ v k=>∃t,v=Value.int k t) (λ _ y=>y=Value.bool true) ok.cell ok.kind ok.x ⟨⟨_,Heap.get?_push_size _ rfl,rfl,rfl⟩,isl.push _⟩ ?_ ⟨?_,?_,?_⟩ ?_
 ·intro b hb
  show b<(s1.heap.push _).objs.size
  rw[Heap.size_push]
  rcases List.mem_cons.mp hb with rfl | hb
  ·exact Nat.lt_succ_self _
  ·rcases List.mem_cons.mp hb with rfl | hb
   ·exact Nat.lt_succ_of_lt hlt
   ·cases hb
 ·intro C i v s3 m3 E' hP hn hm hk
  exact wpAny_tests_nil ⟨rfl,kr s3⟩
 ·intro C i v s3 m3 E' hP _ hn hm hk
  obtain ⟨k,t,rfl⟩:=isInt hP
  exact wpAny_Name (wpAny_loadName_local ok.kind (uT ok C) hn hm ⟨⟨k,intKind_is c.prog c.w k t,t,rfl⟩,kr s3⟩) hd2
 ·intro C i v s3 m3 E' hP _ hn hm hk
  exact wpAny_Constant_bool ⟨rfl,kr s3⟩
 ·intro D C h' tk m' kvs vs' hD hC hDC hnC hlD hlen' hP hF hk
  have ev:vs'=items.toList:=by simpa using list_of_places hlen' hP
  subst ev
  rw[List.filter_eq_self.mpr λ _ _=>rfl] at hF
  have hkv:=Eu hF hints hnd
  subst hkv
  have kp:=up {s1 with heap:=h'} hk
  have sz:∀D,(s1.heap.push {cls:=.type "list_iterator",data:=.fields #[.ref l,.int 0 0]}).get? D=none→s1.heap.get? D=none:=λ D e=>by
   cases e2:s1.heap.get? D with
   | none=>rfl
   | some o=>rw[Heap.get?_push_of_some _ e2] at e;cases e
  have uD:=q1.unused (sz D hD)
  have uC:=q1.unused (sz C hC)
  have q2:=q1.more (s':={s1 with heap:=h',toks:=tk}) rfl rfl kp
  have hv:aO h' ((cK ns).map (·.2)) ((ns.map λ n=>(n,Value.bool true)).map (·.2)):=by
   unfold cK
   rw[List.map_map,List.map_map]
   have:∀ns:List Int,aO h' (ns.map (Prod.snd∘λ n=>(n,AV.bool true))) (ns.map (Prod.snd∘λ n=>(n,Value.bool true))):=λ ns=>by
    induction ns with
    | nil=>exact .nil
    | cons n r ih=>exact .cons (by simp) ih
   exact this ns
  have q3:=q2.1.track (a:=D) (y:=(t,.idict (cK ns))) ⟨uD.1,uD.2.2.1,uD.2.2.2.1,uD.2.2.2.2⟩ ⟨_,hlD,by unfold cK;rw[List.map_map,List.map_map];rfl,hv⟩
  exact Bf q3 hnC ⟨uC.1,by rw[aF.put_ne _ _ (Ne.symm hDC)];exact uC.2.1,uC.2.2.1,uC.2.2.2.1,uC.2.2.2.2⟩ hy hcy (h D uD.2.1) (e1.trans q2.2)
end
structure eB (ns:iT) (z:Bool) (r wt:Nat→Nat) (l:Dt):Prop where
 jus:G1 ns z r (lk l)
 key:∀i v,l.lookup i=some v→i<ns.length∧r i=i
 w:∀n v,n<ns.length→l.lookup (r n)=some v→v≤wt n
 one:∀n m,n<ns.length→m<ns.length→l.lookup (r n)=none→r m=r n→m=n
structure uA (ns:iT) (wt:Nat→Nat):Prop where
 wt:∀n,n<ns.length→((aL ns n).map wt).sum+1≤wt n∧wt n≤1540
 kid:∀n k,n<ns.length→k∈aL ns n→k<ns.length
noncomputable def Dp (ns:iT) (z:Bool) (r:Nat→Nat) (l:Dt) (c:Nat):Prop:=∀n x,n<ns.length→r n=c→nB ns z r (lk l) n=some x→∃v,v≤x∧l.lookup c=some v
noncomputable def sH (l:Dt) (i:Nat):Nat:=(l.lookup i).getD 1541
noncomputable def jC (l:Dt) (N:Nat):Nat:=((List.range N).map (sH l)).sum
theorem Al {f g:Nat→Nat} {c:Nat} (hle:∀i,f i≤g i) (hlt:f c+1≤g c):∀{l:List Nat},c∈l→(l.map f).sum+1≤(l.map g).sum
 | [],h=>by cases h
 | a::r,h=>by
  rw[List.map_cons,List.map_cons,List.sum_cons,List.sum_cons]
  have le:∀l:List Nat,(l.map f).sum≤(l.map g).sum:=λ l=>by
   induction l with
   | nil=>exact Nat.le_refl _
   | cons b s ih=>rw[List.map_cons,List.map_cons,List.sum_cons,List.sum_cons];exact Nat.add_le_add (hle b) ih
  rcases List.mem_cons.mp h with rfl | h
  ·have:=le r;exact Oy hlt this
  ·have:=Al hle hlt h
   have:=hle a
   exact Ox ‹_› this
theorem zB {l:Dt} {c u N:Nat} (hc:c<N) (h:u+1≤sH l c):jC (dZ l c u) N+1≤jC l N:=by
 have e:∀i,sH (dZ l c u) i=if i=c then u else sH l i:=λ i=>by
  unfold sH
  rw[cF]
  split<;>rfl
 refine Al (c:=c) (λ i=>?_) ?_ (List.mem_range.mpr hc)
 ·rw[e]
  split
  ·rename_i h2;subst h2;exact Js h
  ·exact Nat.le_refl _
 ·rw[e,if_pos rfl];exact h
theorem H6 {l:Dt} (h:∀i v,l.lookup i=some v→v≤1541) (N:Nat):jC l N≤N*1541:=by
 unfold jC
 have:∀s:List Nat,(s.map (sH l)).sum≤s.length*1541:=λ s=>by
  induction s with
  | nil=>exact Nat.le_refl _
  | cons a r ih=>
   rw[List.map_cons,List.sum_cons,List.length_cons,Nat.succ_mul]
   have:sH l a≤1541:=by
    unfold sH
    cases e:l.lookup a with
    | none=>exact Nat.le_refl _
    | some v=>exact h a v e
   exact Pl ih this
 have h2:=this (List.range N)
 rw[List.length_range] at h2
 exact h2
theorem Bs {z:Bool} {f:Nat→Option Nat} {wt:Nat→Nat}:∀{ks:List Nat} {x:Nat},(∀k∈ks,∀v,f k=some v→v≤wt k)→val z (ks.map f)=some x→x≤(ks.map wt).sum:=by
 intro ks
 induction ks with
 | nil=>intro x _ e;cases e;exact Nat.le_refl _
 | cons k r ih=>
  intro x h e
  obtain ⟨v,y,h1,h2,rfl⟩:=mA e
  have hv:=h k List.mem_cons_self v h1
  have hy:=ih (λ j hj=>h j (List.mem_cons_of_mem _ hj)) h2
  rw[List.map_cons,List.sum_cons]
  cases z
  ·exact Nat.max_le.mpr ⟨Nat.le_trans hv (Nat.le_add_right ..),Nat.le_trans hy (Nat.le_add_left ..)⟩
  ·exact Nat.add_le_add hv hy
section
variable {ns:iT} {z:Bool} {r wt:Nat→Nat} {l:Dt} {c u:Nat}
theorem Cq {n:Nat} (h:∀k∈aL ns n,r k≠c):nB ns z r (lk (dZ l c u)) n=nB ns z r (lk l) n:=by
 unfold nB
 congr 2
 refine List.map_congr_left λ k hk=>?_
 show (dZ l c u).lookup (r k)=l.lookup (r k)
 rw[cF,if_neg (h k hk)]
theorem Lh.drop (rk:Lh ns z r l c (λ _=>True) (some u)) (hne:l.lookup c≠some u):Gq (lk l) (lk (dZ l c u))∧(∀v,l.lookup c=some v→u+1≤v):=by
 have h:∀v,l.lookup c=some v→u+1≤v:=λ v hv=>by
  obtain ⟨w,hw,e⟩:=rk.own v hv
  cases e
  have:u≠v:=λ e=>hne (e▸hv)
  exact Sj hw this
 refine ⟨λ i v hi=>?_,h⟩
 show ∃w,w≤v∧(dZ l c u).lookup i=some w
 rw[cF]
 by_cases e:i=c
 ·subst e
  exact ⟨u,by have:=h v hi;exact Js this,if_pos rfl⟩
 ·exact ⟨v,Nat.le_refl _,by rw[if_neg e];exact hi⟩
theorem eB.step (g:eB ns z r wt l) (W:uA ns wt) (hc:c<ns.length) (hr:r c=c) (rk:Lh ns z r l c (λ _=>True) (some u)) (hne:l.lookup c≠some u):eB ns z r wt (dZ l c u)∧u+1≤sH l c∧u≤1540:=by
 obtain ⟨low,hlt⟩:=rk.drop hne
 obtain ⟨b,hb,hrb,hw⟩:=(rk.src u rfl).resolve_left hne
 have hub:∀n,n<ns.length→r n=c→u≤wt n:=λ n hn hrn=>by
  cases e:l.lookup c with
  | some v=>have:=hlt v e;have:=g.w n v hn (hrn▸e);exact Q7 ‹_› this
  | none=>
   obtain rfl:n=b:=g.one b n hb hn (hrb▸e) (hrn.trans hrb.symm)
   obtain ⟨y,hy,rfl⟩:=jU hw
   have h1:=Bs (f:=λ k=>lk l (r k)) (wt:=wt) (λ k hk v hv=>g.w k v (W.kid n k hn hk) hv) hy
   have:=(W.wt n hn).1
   exact I4 h1 this
 have huc:=hub c hc hr
 have hwc:=(W.wt c hc).2
 refine ⟨⟨λ i v hi=>?_,λ i v hi=>?_,λ n v hn hv=>?_,λ n m hn hm hno hrm=>?_⟩,?_,by exact Nat.le_trans ‹_› ‹_›⟩
 ·have hi':(dZ l c u).lookup i=some v:=hi
  rw[cF] at hi'
  by_cases e:i=c
  ·subst e
   rw[if_pos rfl] at hi';cases hi'
   obtain ⟨y,hy,e2⟩:=vG low hw
   exact ⟨b,y,hb,hrb,e2,hy⟩
  ·rw[if_neg e] at hi'
   obtain ⟨n,x,h1,h2,h3,h4⟩:=g.jus i v hi'
   obtain ⟨y,hy,e2⟩:=vG low h3
   exact ⟨n,y,h1,h2,e2,Nat.le_trans hy h4⟩
 ·rw[cF] at hi
  by_cases e:i=c
  ·subst e;exact ⟨hc,hr⟩
  ·rw[if_neg e] at hi;exact g.key i v hi
 ·rw[cF] at hv
  by_cases e:r n=c
  ·rw[if_pos e] at hv;cases hv;exact hub n hn e
  ·rw[if_neg e] at hv;exact g.w n v hn hv
 ·rw[cF] at hno
  by_cases e:r n=c
  ·rw[if_pos e] at hno;cases hno
  ·rw[if_neg e] at hno;exact g.one n m hn hm hno hrm
 ·unfold sH
  cases e:l.lookup c with
  | none=>show u+1≤1541;exact Sg huc hwc
  | some v=>exact hlt v e
theorem St.same {wl:List Nat} {R:Option Nat} (rk:Lh ns z r l c (λ _=>True) R) (e:R=l.lookup c) (h:∀d,d<ns.length→r d=d→d=c∨d∈wl∨Dp ns z r l d):∀d,d<ns.length→r d=d→d∈wl∨Dp ns z r l d:=λ d h1 h2=>by
 rcases h d h1 h2 with rfl | h
 ·refine .inr λ n x hn hrn hx=>?_
  obtain ⟨u,hu,e2⟩:=rk.low n x hn hrn trivial hx
  exact ⟨u,hu,e▸e2⟩
 ·exact h
theorem St.new {wl wl':List Nat} (rk:Lh ns z r l c (λ _=>True) (some u)) (h:∀d,d<ns.length→r d=d→d=c∨d∈wl∨Dp ns z r l d) (hs:∀x∈wl,x∈wl') (hu:∀b k,b<ns.length→k∈aL ns b→r k=c→r b∈wl'):
  ∀d,d<ns.length→r d=d→d∈wl'∨Dp ns z r (dZ l c u) d:=λ d h1 h2=>by
 by_cases hd:d∈wl'
 ·exact .inl hd
 refine .inr λ n x hn hrn hx=>?_
 have hk:∀k∈aL ns n,r k≠c:=λ k hk e=>hd (hrn▸hu n k hn hk e)
 rw[Cq hk] at hx
 rw[cF]
 by_cases e:d=c
 ·subst e
  rw[if_pos rfl]
  obtain ⟨w,hw,e2⟩:=rk.low n x hn hrn trivial hx
  cases e2
  exact ⟨_,hw,rfl⟩
 ·rw[if_neg e]
  rcases h d h1 h2 with h | h | h
  ·exact absurd h e
  ·exact absurd (hs _ h) hd
  ·exact h n x hn hrn hx
end
theorem nL {k:Nat} {l:List Nat}:(k:Int)∈aQ l↔k∈l:=by
 unfold aQ
 rw[List.mem_map]
 exact ⟨λ ⟨x,hx,e⟩=>Int.ofNat.inj e▸hx,λ h=>⟨k,h,rfl⟩⟩
theorem dL (l:List Nat):(aQ l).length=l.length:=List.length_map ..
theorem gK (a b:List Nat):aQ (a++b)=aQ a++aQ b:=List.map_append ..
theorem uP (ws:List Int) (k:Int):gY (cK ws) k=if k∈ws then some (.bool true) else none:=by
 unfold gY cK
 induction ws with
 | nil=>rfl
 | cons a r ih=>
  rw[List.map_cons,List.find?_cons]
  by_cases e:a=k
  ·subst e;simp
  ·have e3:decide (a=k)=false:=by simpa using e
   rw[e3]
   simp only[List.mem_cons,Ne.symm e,false_or]
   exact ih
theorem C8 (wl:List Nat) (k:Nat):A7 (cK (aQ wl)) (k:Int)=cK (aQ (wl.filter λ x=>decide (x≠k))):=by
 unfold A7 cK aQ
 rw[List.filter_map,List.filter_map,List.map_map,List.map_map]
 congr 1
 refine List.filter_congr λ x _=>?_
 show decide ((x:Int)≠(k:Int))=decide (x≠k)
 exact decide_eq_decide.mpr (not_congr Int.natCast_inj)
theorem C7 {wl:List Nat} {k:Nat} (h:k∉wl):pE (cK (aQ wl)) (k:Int) (.bool true)=cK (aQ (wl++[k])):=by
 unfold pE
 have:(cK (aQ wl)).any (λ e=>decide (e.1=(k:Int)))=false:=List.any_eq_false.mpr λ p hp=>by
  obtain ⟨x,hx,rfl⟩:=List.mem_map.mp hp
  obtain ⟨y,hy,rfl⟩:=List.mem_map.mp hx
  rw[decide_eq_true_eq]
  exact λ e=>h (Int.ofNat.inj e▸hy)
 rw[this,if_neg (by simp),gK]
 unfold cK
 rw[List.map_append];rfl
structure tE (M:HM) (k:Nat) (R Wd:Addr) (row wl:List Nat) (sp:Nat) (σ:aF):Prop where
 rr:σ R=some (.u 9 k,.list (aS (aQ row)))
 ww:σ Wd=some (.u 10 k,.idict (cK (aQ wl)))
 le:sp≤row.length
 nd:wl.Nodup
 dn:(row.drop sp).Nodup
 eq:∀x,x∈wl↔x∈row.drop sp
 ok:∀x∈row,x<M.up.length∧root M.up x=x
section
variable {k:Nat} {σ σ':aF} {L:HL} {M:HM} {a:KA} {z:Bool} {V R Wd:Addr} {l:Dt} {row wl:List Nat} {sp:Nat}
theorem cL.putU (r:cL k L a z V l σ) {F:Addr} {i:Nat} {ao y:AO} (hi:8≤i) (hF:σ F=some (.u i k,ao)):cL k L a z V l (σ.put F (.u i k,y)):=
 have h:∀j,j<8→Tg.u j k≠ .u i k:=λ j hj e=>by cases e;exact BE hi hj
 ⟨aF.put_tag _ hF r.x (h 3 (by decide)),aF.put_tag _ hF r.d (h 4 (by decide)),aF.put_tag _ hF r.v (h 5 (by decide)),aF.put_tag _ hF r.an (h 6 (by decide)),aF.put_tag _ hF r.da (h 7 (by decide))⟩
theorem cL.putV (r:cL k L a z V l σ) (l':Dt):cL k L a z V l' (σ.put V (.u 5 k,.idict (lO l'))):=
 have h:=r.v
 ⟨aF.put_tag _ h r.x (dK rfl),aF.put_tag _ h r.d (dK rfl),aF.put_same ..,aF.put_tag _ h r.an (dK rfl),aF.put_tag _ h r.da (dK rfl)⟩
theorem tE.wlt (u:tE M k R Wd row wl sp σ):∀x∈wl,x<M.up.length:=λ x hx=>(u.ok x (List.mem_of_mem_drop ((u.eq x).mp hx))).1
theorem tE.few (u:tE M k R Wd row wl sp σ) (o:gH M):(cK (aQ wl)).length≤10000000:=by
 have:=mG u.nd (s:=List.range M.up.length) λ x hx=>List.mem_range.mpr (u.wlt x hx)
 rw[List.length_range] at this
 have h2:=o.few
 unfold cK
 rw[List.length_map,dL];exact Sc this h2
theorem tE.ext (u:tE M k R Wd row wl sp σ) (e:fQ σ σ'):tE M k R Wd row wl sp σ':={u with rr:=e _ _ _ rfl u.rr,ww:=e _ _ _ rfl u.ww}
theorem tE.del (u:tE M k R Wd row wl sp σ) {D:Addr} {ao:AO} (hD:σ D=some (.t 0,ao)):tE M k R Wd row wl sp (σ.del D):={u with rr:=aF.del_tag hD u.rr (dK rfl),ww:=aF.del_tag hD u.ww (dK rfl)}
theorem tE.put (u:tE M k R Wd row wl sp σ) {F:Addr} {i:Nat} {ao y:AO} (hi:i<9) (hF:σ F=some (.u i k,ao)):tE M k R Wd row wl sp (σ.put F (.u i k,y)):=
 {u with rr:=aF.put_tag _ hF u.rr (λ e=>by cases e;exact lq3 hi),ww:=aF.put_tag _ hF u.ww (λ e=>by cases e;exact lq0 hi)}
theorem tE.pop {c:Nat} (u:tE M k R Wd row wl sp σ) (hc:row[sp]? =some c):tE M k R Wd row (wl.filter λ x=>decide (x≠c)) (sp+1) (σ.put Wd (.u 10 k,.idict (cK (aQ (wl.filter λ x=>decide (x≠c)))))):=by
 obtain ⟨hl,e⟩:=List.getElem?_eq_some_iff.mp hc
 have hd:row.drop sp=c::row.drop (sp+1):=by rw[List.drop_eq_getElem_cons hl,e]
 have hdn:=u.dn
 rw[hd,List.nodup_cons] at hdn
 refine ⟨aF.put_tag _ u.ww u.rr (dK rfl),aF.put_same ..,hl,u.nd.sublist (List.filter_sublist ..),hdn.2,λ x=>?_,u.ok⟩
 rw[List.mem_filter,u.eq,hd,List.mem_cons,decide_eq_true_eq]
 constructor
 ·rintro ⟨h1 | h1,h2⟩
  ·exact absurd h1 h2
  ·exact h1
 ·intro h
  exact ⟨.inr h,λ e=>hdn.1 (e▸h)⟩
theorem tE.push {x:Nat} (u:tE M k R Wd row wl sp σ) (hx:x∉wl) (h:x<M.up.length∧root M.up x=x):tE M k R Wd (row++[x]) (wl++[x]) sp ((σ.put Wd (.u 10 k,.idict (cK (aQ (wl++[x]))))).put R (.u 9 k,.list (aS (aQ (row++[x]))))):=by
 have h1:=aF.put_tag (.u 10 k,.idict (cK (aQ (wl++[x])))) u.ww u.rr (dK rfl)
 refine ⟨aF.put_same ..,aF.put_tag _ h1 (aF.put_same ..) (dK rfl),by rw[List.length_append];exact Nat.le_add_right_of_le u.le,?_,?_,λ y=>?_,λ y hy=>?_⟩
 ·rw[List.nodup_append]
  exact ⟨u.nd,List.nodup_cons.mpr ⟨List.not_mem_nil,List.nodup_nil⟩,λ p hp q hq e=>hx (by rw[List.mem_singleton] at hq;subst hq;exact e▸hp)⟩
 ·rw[List.drop_append_of_le_length u.le,List.nodup_append]
  exact ⟨u.dn,List.nodup_cons.mpr ⟨List.not_mem_nil,List.nodup_nil⟩,λ p hp q hq e=>hx (by rw[List.mem_singleton] at hq;subst hq;exact (u.eq _).mpr (e▸hp))⟩
 ·rw[List.drop_append_of_le_length u.le,List.mem_append,List.mem_append,u.eq]
 ·rcases List.mem_append.mp hy with hy | hy
  ·exact u.ok y hy
  ·rw[List.mem_singleton] at hy;subst hy;exact h
end
inductive Gp (k:Nat) (L:HL) (M:HM) (a:KA) (z:Bool) (wt:Nat→Nat) (R Wd:Addr) (σ:aF) (n:Nat) (loc:aV) (σ':aF):Prop
 | mk (c1:loc z23=some (.ref a.X)) (c2:loc z184=some (.ref R)) (c3:loc z167=some (.ref Wd)) (V':Addr) (l':Dt) (row:List Nat) (wl:List Nat) (sp:Nat) (c4:loc z174=some (.int ((sp:Nat):Int))) (c5:gW k σ σ') (c6:aI L M σ') (c7:cL k L a z V' l' σ') (c8:xD M.up.length l') (c9:eB M.nodes z (root M.up) wt l') (c10:tE M k R Wd row wl sp σ') (c11:(∀d,d<M.nodes.length→root M.up d=d→d∈wl∨Dp M.nodes z (root M.up) l' d)) (c12:row.length+41*jC l' M.up.length≤3000000) (c13:n=(row.length-sp)+41*jC l' M.up.length):Gp k L M a z wt R Wd σ n loc σ'
inductive Cl (k:Nat) (L:HL) (M:HM) (a:KA) (z:Bool) (R Wd:Addr) (σ:aF) (V':Addr) (l':Dt) (row wl:List Nat) (cc u sp:Nat) (ns:List Int) (j:Nat) (loc:aV) (σ'':aF):Prop
 | mk (c1:loc z23=some (.ref a.X)) (c2:loc z184=some (.ref R)) (c3:loc z167=some (.ref Wd)) (c4:loc z174=some (.int ((sp+1:Nat):Int))) (row':List Nat) (wl':List Nat) (c5:gW k σ σ'') (c6:aI L M σ'') (c7:cL k L a z V' (dZ l' cc u) σ'') (c8:tE M k R Wd row' wl' (sp+1) σ'') (c9:row'.length≤row.length+j) (c10:(∀x∈(wl.filter λ x=>decide (x≠cc)),x∈wl')) (c11:∀x:Nat,(x:Int)∈ns.take j→root M.up x∈wl'):Cl k L M a z R Wd σ V' l' row wl cc u sp ns j loc σ''
theorem C5 {x y:Option Nat} (h:x.map (λ v:Nat=>(v:Int))=y.map λ v:Nat=>(v:Int)):x=y:=by
 cases x<;>cases y
 ·rfl
 ·cases h
 ·cases h
 ·exact congrArg some (Int.ofNat.inj (Option.some.inj h))
section
variable {c:Cx} {σ:aF} {Φ:AV→aF→Prop} {k:Nat} {L:HL} {M:HM} {a:KA} {z:Bool} {V:Addr} {l:Dt} {wt:Nat→Nat}
theorem B8 (hc:6≤c.n) (q:aI L M σ) (o:gH M) (hus:∀n,n<M.up.length→∀k∈aL M.nodes n,(n:Int)∈(M.ab (root M.up k)).2) (hab:∀i:Nat,M.up[i]? =some (i:Int)→∀x∈(M.ab i).2,∃n:Nat,n<M.up.length∧x=n)
  (r:cL k L a z V l σ) (d:xD M.up.length l) (W:uA M.nodes wt) (hg:∀l',xE (root M.up) l l' (λ _=>True)→eB M.nodes z (root M.up) wt l')
  (h:∀σ' V' l',gW k σ σ'→aI L M σ'→cL k L a z V' l' σ'→xD M.up.length l'→eB M.nodes z (root M.up) wt l'→Gz M.nodes z (root M.up) (lk l')→Φ .none σ'):gG c σ (.ref 113) [.ref a.X] Φ:=by
 have hfew:=o.few
 have hno:=o.nodes
 refine (pM c.w).call (c1 hc) rfl λ K=>aE (bA (bG r.x r.d rfl (gX (fU c.w) 2 rfl) (aM rfl rfl) (aB ?_)))
 refine zE (c:=c.deep _) (cn hc) q o r d λ σ1 V1 l1 E1 q1 r1 d1 b1=>?_
 have g1:=hg l1 b1
 refine aE (aJ (bP (cE c.w 6 rfl) rfl bN (aA (bG (q1.at 1) (q1.at 2) rfl (gX (cS c.w) 6 rfl) (gR r1 (aM rfl rfl) rfl rfl rfl) (aB ?_)))))
 refine yJ (c:=c.deep _) (cn hc) q1 o.z λ σ2 D e2 q2 hD=>aB ?_
 obtain ⟨rs,hrs⟩:∃rs,rs=(List.range M.up.length).filter λ b:Nat=>M.up[b]? ==some (b:Int):=⟨_,rfl⟩
 have hrsm:∀x,x∈rs↔x<M.up.length∧M.up[x]? =some (x:Int):=λ x=>by
  rw[hrs,List.mem_filter,List.mem_range,beq_iff_eq]
 have hrsn:rs.Nodup:=by rw[hrs];exact List.nodup_range.sublist (List.filter_sublist ..)
 have hrsl:rs.length≤40:=by
  rw[hrs]
  refine Nat.le_trans (List.length_filter_le ..) ?_
  rw[List.length_range];exact hfew
 have hD':σ2 D=some (.t 0,.list (aS (aQ rs))):=by rw[hD,hrs];rfl
 refine oG (.u 9 k) hD' (by rw[aN,dL];exact Md hrsl) λ R hR=>bX rfl rfl ?_
 have q3:=q2.new hR (.u 9 k,.list (aS (aQ rs)))
 have r3:=(r1.ext e2).new hR (.u 9 k,.list (aS (aQ rs)))
 have E3:gW k σ (σ2.put R (.u 9 k,.list (aS (aQ rs)))):=(E1.trans (.of e2)).put (.inl hR)
 refine aE (sV (cl:=[]) (bY.of (by kernel_rfl) rfl nn .nil) (.u 10 k) rfl rfl (aF.put_same ..) (by
  unfold aQ
  exact hrsn.map _ λ x y hxy e=>hxy (Int.ofNat.inj e)) (by rw[dL];exact Zx hrsl) (λ Wd hWd=>?_) rfl rfl (λ _ hm=>nomatch hm))
 have q4:=q3.new hWd (.u 10 k,.idict (cK (aQ rs)))
 have r4:=r3.new hWd (.u 10 k,.idict (cK (aQ rs)))
 have E4:=E3.put (a:=Wd) (y:=(.u 10 k,.idict (cK (aQ rs)))) (.inl hWd)
 have u4:tE M k R Wd rs rs 0 ((σ2.put R (.u 9 k,.list (aS (aQ rs)))).put Wd (.u 10 k,.idict (cK (aQ rs)))):=
  ⟨aF.put_new _ hWd (aF.put_same ..),aF.put_same ..,Nat.zero_le _,hrsn,hrsn,λ _=>Iff.rfl,λ x hx=>⟨((hrsm x).mp hx).1,hZ o.up ((hrsm x).mp hx).2⟩⟩
 refine aE (aJ (aY (bX rfl rfl ?_)))
 have cs1:jC l1 M.up.length≤61640:=Nat.le_trans (H6 (λ i v hi=>by
  obtain ⟨h1,h2⟩:=g1.key i v hi
  have:=g1.w i v h1 (h2.symm▸hi)
  have:=(W.wt i h1).2
  exact Se ‹_› this) _) (by exact Zy hfew)
 refine aE (jS (Gp k L M a z wt R Wd σ)
  (rs.length+41*jC l1 M.up.length) ⟨rfl,rfl,rfl,V1,l1,rs,rs,0,rfl,E4,q4,r4,d1,g1,u4,λ d hd hr=>.inl ((hrsm d).mpr ⟨hno▸hd,hr▸(dW o.up (hno▸hd)).2.2⟩),by exact Sr hrsl cs1,by exact Rr⟩ ?_)
 rintro n loc σ' ⟨h1,h2,h3,V',l',row,wl,sp,h4,E',q',r',d',g',u',st,hb,rfl⟩
 have lr:(aS (aQ row)).length=row.length:=by rw[aN,dL]
 refine aT (aC h4 rfl (bP (cZ c.w) rfl aK (aA (aC h2 rfl (aB (bK u'.rr (by exact Q0 hb lr) (uM ⟨_,rfl,?_⟩)))))))
 rw[lr]
 by_cases hsp:sp<row.length
 case neg=>
  rw[decide_eq_false (by exact Rz hsp),if_neg (by simp)]
  refine aP ⟨_,rfl,h σ' V' l' E' q' r' d' g' λ n x hn hx=>?_⟩
  have hnl:n<M.up.length:=hno▸hn
  have hrl:=dW o.up hnl
  have hrn:root M.up n<M.up.length:=Nat.lt_of_le_of_lt hrl.2.1 hnl
  rcases st _ (by rw[hno];exact hrn) (hZ o.up hrl.2.2) with h5 | h5
  ·have:=(u'.eq _).mp h5
   rw[List.drop_eq_nil_of_le (by exact Nat.le_of_not_lt ‹_›)] at this
   cases this
  ·exact h5 n x hn rfl hx
 rw[decide_eq_true (by exact Int.ofNat_le.mpr ‹_›),if_pos rfl]
 obtain ⟨cc,hcc⟩:∃cc,row[sp]? =some cc:=⟨_,List.getElem?_eq_getElem hsp⟩
 obtain ⟨hcl,hcr⟩:=u'.ok cc (List.mem_of_getElem? hcc)
 have hcw:cc∈wl:=(u'.eq cc).mpr (by rw[List.drop_eq_getElem_cons hsp];rw[List.getElem?_eq_getElem hsp] at hcc;cases hcc;exact List.mem_cons_self)
 refine aE (eI rfl rfl rfl (λ _ hm=>nomatch hm) (λ _ hm=>nomatch hm) (aZ (aA (bF (aC h2 rfl (aC h4 rfl (bC (x:=.int (cc:Int)) u'.rr (by rw[aS,aQ,List.getElem?_map,List.getElem?_map,hcc];rfl) (by exact Q2 hb hsp) ?_)))))))
 refine aA (aU (aC h4 rfl (aY (eX (aB ⟨by simp,_,_,rfl,?_⟩)))))
 refine aE (bA (cO (Ew u'.ww) (aM h3 rfl) (aA (aC rfl rfl (aB (Br u'.ww (u'.few o) (x:=.bool true) (by rw[uP,if_pos (nL.mpr hcw)]) ?_))))))
 rw[C8]
 have u2:=u'.pop hcc
 have q5:=q'.other (y:=.idict (cK (aQ (wl.filter λ x=>decide (x≠cc))))) (by decide:3≤10) u'.ww
 have r5:=r'.putU (y:=.idict (cK (aQ (wl.filter λ x=>decide (x≠cc))))) (by decide:8≤10) u'.ww
 have E5:=E'.put (y:=(.u 10 k,.idict (cK (aQ (wl.filter λ x=>decide (x≠cc)))))) (.inr ⟨_,_,by unfold jA;simp,u'.ww⟩)
 refine aE (aJ (bG r5.x r5.d rfl (gX (fU c.w) 3 rfl) (aM h1 rfl) (aA (aC rfl rfl (aB ?_)))))
 refine xL (c:=c.deep _) (cn hc) q5 o r5 d' hcl hcr λ σ6 Rv e6 q6 rk=>bX rfl rfl ?_
 have r6:=r5.ext e6
 have u6:=u2.ext e6
 have E6:gW k σ σ6:=E5.trans (.of e6)
 have st6:∀d,d<M.nodes.length→root M.up d=d→d=cc∨d∈(wl.filter λ x=>decide (x≠cc))∨Dp M.nodes z (root M.up) l' d:=λ d hd hr=>by
  by_cases e:d=cc
  ·exact .inl e
  ·rcases st d hd hr with h5 | h5
   ·exact .inr (.inl (List.mem_filter.mpr ⟨h5,decide_eq_true e⟩))
   ·exact .inr (.inr h5)
 refine aE (eG (aT (aC rfl rfl (cO (oS r6.v) (gR r6 (aM h1 rfl) rfl rfl rfl) (aA (aC rfl rfl (aB (iJ r6.v ?_))))))))
 rw[gQ]
 refine Ks (x:=Rv.map λ v:Nat=>(v:Int)) (y:=(l'.lookup cc).map λ v:Nat=>(v:Int)) ⟨_,rfl,?_⟩
 by_cases hne:Rv=l'.lookup cc
 ·rw[show ((Rv.map λ v:Nat=>(v:Int)) !=(l'.lookup cc).map λ v:Nat=>(v:Int))=false by rw[hne];simp,if_neg (by simp)]
  exact aP (aP ⟨(row.length-(sp+1))+41*jC l' M.up.length,by exact Qc hsp,h1,h2,h3,V',l',row,_,sp+1,rfl,E6,q6,r6,d',g',u6,St.same rk hne st6,hb,rfl⟩)
 rw[show ((Rv.map λ v:Nat=>(v:Int)) !=(l'.lookup cc).map λ v:Nat=>(v:Int))=true by rw[bne_iff_ne];exact λ e=>hne (C5 e),if_pos rfl]
 obtain ⟨u,rfl⟩:∃u,Rv=some u:=by
  cases Rv with
  | some u=>exact ⟨u,rfl⟩
  | none=>cases e:l'.lookup cc with
   | none=>exact absurd e.symm hne
   | some v=>obtain ⟨w,_,e2⟩:=rk.own v e;cases e2
 obtain ⟨g7,hcost,hu⟩:=g'.step W (hno.symm▸hcl) hcr rk λ e=>hne e.symm
 have cs7:=zB (l:=l') (u:=u) hcl hcost
 have d7:=d'.put (k:=cc) (v:=u) hcl (by exact Nat.le_trans ‹_› (Nat.le_of_ble_eq_true rfl))
 refine aE (aJ (aC rfl rfl (gU (wT r6 (aM h1 rfl) rfl rfl rfl (aC rfl rfl (eS (x:=.int (u:Int)) r6.v (by rw[mX];have:=d'.few;exact Fg hfew this) (mW l' cc u) ?_))))))
 have r7:=r6.putV (dZ l' cc u)
 have q7:=q6.other (y:=.idict (lO (dZ l' cc u))) (by decide:3≤5) r6.v
 have u7:=u6.put (y:=.idict (lO (dZ l' cc u))) (by decide:5<9) r6.v
 have E7:=E6.put (y:=(.u 5 k,.idict (lO (dZ l' cc u)))) (.inr ⟨_,_,by unfold jA;simp,r6.v⟩)
 refine aE (lT (bG (q7.at 1) (q7.at 2) rfl (gX (cS c.w) 9 rfl) (gR r7 (aM h1 rfl) rfl rfl rfl) (aA (aC rfl rfl (aB ?_)))))
 refine Ee (c:=c.deep _) (cn hc) q7 o hcl λ σ8 D8 ns e8 q8 hns hnl hD8=>?_
 have r8:=r7.ext e8
 have cr:=(dW o.up hcl).2.2
 refine ⟨_,_,eU rfl hD8,Cl k L M a z R Wd σ V' l' row wl cc u sp ns,⟨h1,h2,h3,rfl,row,_,(E7.trans (.of e8)).del hD8 rfl,q8.del hD8 (λ i hi e=>by cases e;exact hi rfl) nofun,?_,(u7.ext e8).del hD8,Nat.le_refl _,λ _ hx=>hx,nofun⟩,?_,?_⟩
 ·exact ⟨aF.del_tag hD8 r8.x (dK rfl),aF.del_tag hD8 r8.d (dK rfl),aF.del_tag hD8 r8.v (dK rfl),aF.del_tag hD8 r8.an (dK rfl),aF.del_tag hD8 r8.da (dK rfl)⟩
 ·rintro j y loc σ'' hy ⟨i1,i2,i3,i4,row',wl',E9,q9,r9,u9,hl9,hs9,hu9⟩
  rw[aS,List.getElem?_map] at hy
  obtain ⟨x,hx,rfl⟩:=Option.map_eq_some_iff.mp hy
  have hxu:=(hns x).mp (List.mem_of_getElem? hx)
  rw[hcr] at hxu cr
  obtain ⟨us,hus1,rfl⟩:=hab cc cr x hxu
  have hj:j<40:=by have:=(List.getElem?_eq_some_iff.mp hx).1;exact Sx hnl this
  refine bX rfl rfl (aE (aJ (bG (q9.at 1) (q9.at 2) rfl (gX (cS c.w) 0 rfl) (gR r9 (aM i1 rfl) rfl rfl rfl) (aA (aC rfl rfl (aB ?_))))))
  refine fY (c:=c.deep _) (cn hc) q9 o.up o.z hus1 λ hrl hr=>bX rfl rfl ?_
  refine aE (eG (aT (aC rfl rfl (aC i3 rfl (uL u9.ww ⟨_,rfl,?_⟩)))))
  rw[uP]
  have tk:∀wl'':List Nat,(∀y∈wl',y∈wl'')→root M.up us∈wl''→∀y:Nat,(y:Int)∈ns.take (j+1)→root M.up y∈wl'':=λ wl'' hs hm y hy=>by
   rw[List.take_add_one,hx,List.mem_append] at hy
   rcases hy with hy | hy
   ·exact hs _ (hu9 y hy)
   ·rw[Int.ofNat.inj (List.mem_singleton.mp hy)];exact hm
  by_cases hin:root M.up us∈wl'
  ·rw[if_pos (nL.mpr hin),if_neg (by simp)]
   exact aP (aP ⟨i1,i2,i3,i4,row',wl',E9,q9,r9,u9,by exact Nat.le_succ_of_le ‹_›,hs9,tk wl' (λ _ h=>h) hin⟩)
  ·rw[if_neg λ e=>hin (nL.mp e),if_pos (by rfl)]
   refine aE (aJ (fC (gU (aC i3 rfl (aC rfl rfl (eS u9.ww (u9.few o) (C7 hin) ?_))))))
   have q10:=q9.other (y:=.idict (cK (aQ (wl'++[root M.up us])))) (by decide:3≤10) u9.ww
   have r10:=r9.putU (y:=.idict (cK (aQ (wl'++[root M.up us])))) (by decide:8≤10) u9.ww
   have E10:=E9.put (y:=(.u 10 k,.idict (cK (aQ (wl'++[root M.up us]))))) (.inr ⟨_,_,by unfold jA;simp,u9.ww⟩)
   have rr10:=aF.put_tag (.u 10 k,.idict (cK (aQ (wl'++[root M.up us])))) u9.ww u9.rr (dK rfl)
   refine aE (bA (cO (cN rr10) (aM i2 rfl) (aA (aC rfl rfl (aB (bR rr10 (by rw[aN,dL];exact Ow hb hl9 hj) ?_))))))
   rw[show aS (aQ row')++[AV.int ((root M.up us:Nat):Int)]=aS (aQ (row'++[root M.up us])) by rw[gK,←dG];rfl]
   refine aP (aP ⟨i1,i2,i3,i4,row'++[root M.up us],wl'++[root M.up us],E10.put (.inr ⟨_,_,by unfold jA;simp,rr10⟩),q10.other (by decide:3≤9) rr10,r10.putU (by decide:8≤9) rr10,u9.push hin ⟨hrl,hZ o.up hr⟩,?_,λ y hy=>List.mem_append_left _ (hs9 y hy),tk _ (λ y hy=>List.mem_append_left _ hy) (List.mem_append_right _ List.mem_cons_self)⟩)
   rw[List.length_append,List.length_singleton];exact Ph hl9
 ·rintro loc σ'' ⟨i1,i2,i3,i4,row',wl',E9,q9,r9,u9,hl9,hs9,hu9⟩
  rw[aN,List.take_length] at hu9
  rw[aN] at hl9
  refine aP (aP ⟨(row'.length-(sp+1))+41*jC (dZ l' cc u) M.up.length,by exact No cs7 hnl hl9,i1,i2,i3,V',dZ l' cc u,row',wl',sp+1,i4,E9,q9,r9,d7,g7,u9,St.new rk st6 hs9 λ b kd hb hkd e=>hu9 b ((hns _).mpr ?_),by exact N3 hb cs7 hnl hl9,rfl⟩)
  have hbl:b<M.up.length:=hno▸hb
  have:=hus b hbl kd hkd
  rw[e] at this
  rw[hcr]
  exact this
end
noncomputable def lW (σ σ':aF):Prop:=∀a y,σ a=some y→σ' a=some y
theorem lW.refl (σ:aF):lW σ σ:=λ _ _ h=>h
theorem lW.trans {a b d:aF} (x:lW a b) (y:lW b d):lW a d:=λ p o h=>y p o (x p o h)
noncomputable abbrev G2:=List (Tg×Addr×AO)
noncomputable def dJ (σ:aF) (F:G2):Prop:=∀x∈F,σ x.2.1=some (x.1,x.2.2)
section
variable {σ σ':aF} {F G:G2} {D:Addr}
theorem lW.put (o:lW σ σ') (hD:σ' D=none) {y:Tg×AO}:lW σ (σ'.put D y):=λ a z h=>aF.put_new _ hD (o a z h)
theorem lW.upd (o:lW σ σ') (hD:σ D=none) {y:Tg×AO}:lW σ (σ'.put D y):=λ a z h=>by
 rw[aF.put_ne _ _ (λ e=>by subst e;rw[hD] at h;cases h)];exact o a z h
theorem dJ.nil:dJ σ []:=nn
theorem dJ.old (f:dJ σ F) (o:lW σ σ'):dJ σ' F:=λ x hx=>o _ _ (f x hx)
theorem dJ.add (f:dJ σ F) (hD:σ D=none) {y:Tg×AO}:dJ (σ.put D y) ((y.1,D,y.2)::F):=λ x hx=>by
 rcases List.mem_cons.mp hx with rfl | hx
 ·exact aF.put_same ..
 ·exact aF.put_new _ hD (f x hx)
theorem dJ.app (f:dJ σ F) (g:dJ σ G):dJ σ (F++G):=λ x hx=>(List.mem_append.mp hx).elim (f x) (g x)
theorem dJ.upd (f:dJ σ F) {t:Tg} {o o':AO} (hD:σ D=some (t,o)) (h:(F.all λ x=>x.1 !=t)=true):dJ (σ.put D (t,o')) F:=λ x hx=>
 aF.put_tag _ hD (f x hx) (by simpa using List.all_eq_true.mp h x hx)
theorem dJ.at (f:dJ σ F) (i:Nat) {t:Tg} {ao:AO} (h:F[i]? =some (t,D,ao)):σ D=some (t,ao):=f _ (List.mem_of_getElem? h)
end
noncomputable def nE (K:Frag) (C:Addr) (l:List Str):Bool:=(match findIn K (.ref C) "__setattr__" with | some (some (.builtin "object.__setattr__"))=>true | _=>false)&&plainOver K C&&hasDictIn K C&&l.all λ n=>match takerIn K C n with | some none=>true | _=>false
section
variable {c:Cx} {env:Env} {loc:aV} {σ:aF}
theorem cA {o:Expr} {name:Str} {pos:Pos} {av:AV} {ΦA:aV→aF→Prop} {X C d:Addr} {t t':Tg} {m:List (Str×AV)} {l:List Str} (hs:nE (KK c.w) C l=true) (hn:l.contains name=true) (hx:σ X=some (t,.inst C d)) (hd:σ d=some (t',.ns m)) (hm:m.length≤100)
  (ho:∀Ψ:AV→aF→Prop,Ψ (.ref X) σ→WE c env loc σ o Ψ) (h:ΦA loc (σ.put d (t',.ns (vS m name av)))):WA c env loc σ (.Attribute o name pos) av ΦA:=by
 unfold nE at hs
 rw[Bool.and_eq_true,Bool.and_eq_true,Bool.and_eq_true] at hs
 obtain ⟨⟨⟨h1,h2⟩,h3⟩,h4⟩:=hs
 refine Ck (ho _ ⟨X,C,d,t,t',m,rfl,hx,hd,hm,?_,h2,?_,h3,h⟩)
 ·split at h1
  ·assumption
  ·cases h1
 ·have:=List.all_eq_true.mp h4 name (by simpa using hn)
  split at this
  ·assumption
  ·cases this
noncomputable def Lp (K:Frag) (x:Str) (a:Addr):Bool:=(match nsIn K mainGlobals x with | some (some (.ref b))=>b==a | _=>false)&&keepIn K (.ref a)
theorem fF {x:Str} {a:Addr} {p pos:Pos} {args:List Expr} {Φ:AV→aF→Prop} (e:Lp (KK c.w) x a=true) (hk:env.kindOf x=some .globalImplicit) (h:iG c env loc σ pos args λ as σ2=>gG c σ2 (.ref a) as Φ)
  (hd:(x==("__debug__":Str))=false:=by decide)
  (hform:eval (.Call (.Name x p) args [] pos) env=(do callWith pos (←eval (.Name x p) env) [] (backTo pos (starEach args env)) []):=by rfl)
  (hp:(backTo pos (starEach args env)).any (·.1)=false:=by rfl):WE c env loc σ (.Call (.Name x p) args [] pos) Φ:=by
 unfold Lp at e
 rw[Bool.and_eq_true] at e
 obtain ⟨e1,e2⟩:=e
 refine wX (vD (v:=.ref a) ?_ hk ⟨.ref a,rfl,A3 e2,WX.mono h λ as σ2 w=>J5 w⟩ hd) hform hp
 split at e1
 ·rename_i b e3;rw[beq_iff_eq] at e1;subst e1;exact e3
 ·cases e1
end
theorem Vw (w:World):([(z69,284),(z105,366),(z130,498),(z36,130),(z15,66),(z14,45),(z68,180),(z131,509),(z132,516),(z133,521),(z134,526),(z171,533),(z172,538)].all λ p=>Lp (KK w) p.1 p.2)=true:=by kernel_rfl
noncomputable def B2 (K:Frag) (C fI:Addr):Bool:=makesIn K C&&(match findIn K (.ref C) "__init__" with | some (some (.ref f))=>f==fI | _=>false)&&(match typeIn K (.ref fI) with | some (.type "function")=>true | _=>false)
theorem Kz (w:World):([(284,194),(366,302),(498,384),(130,82)].all λ p=>B2 (KK w) p.1 p.2)=true:=by kernel_rfl
theorem kZ (w:World):nE (KK w) 366 [z126,z127,z128]=true:=by kernel_rfl
theorem mC (w:World):nE (KK w) 284 kD=true:=by kernel_rfl
theorem fT (w:World):nE (KK w) 498 [z162,z166,z163,z164,z165,z126,z167,z59]=true:=by kernel_rfl
theorem gL (w:World):nE (KK w) 130 [z46,z47,z25,z60,z59]=true:=by kernel_rfl
section
variable {c:Cx} {σ:aF} {Φ:AV→aF→Prop}
theorem wY {C fI:Addr} {as:List AV} (t t':Tg) (hk:B2 (KK c.w) C fI=true) (hn:1≤c.n)
  (h:∀vals X d,σ d=none→(σ.put d (t',.ns [])) X=none→gG (c.make C vals) ((σ.put d (t',.ns [])).put X (t,.inst C d)) (.ref fI) (.ref X::as) λ r σ'=>r= .none∧Φ (.ref X) σ'):gG c σ (.ref C) as Φ:=by
 unfold B2 at hk
 rw[Bool.and_eq_true,Bool.and_eq_true] at hk
 obtain ⟨⟨h1,h2⟩,h3⟩:=hk
 refine Ii t t' h1 ?_ ?_ hn h
 ·split at h2
  ·rename_i f e;rw[beq_iff_eq] at h2;subst h2;exact e
  ·cases h2
 ·split at h3
  ·assumption
  ·cases h3
theorem Hn {w:World} (i:Nat) {C f:Addr} (h:([(284,194),(366,302),(498,384),(130,82)]:List (Addr×Addr))[i]? =some (C,f)):B2 (KK w) C f=true:=List.all_eq_true.mp (Kz w) (C,f) (List.mem_of_getElem? h)
theorem lV {w:World} (i:Nat) {x:Str} {a:Addr} (h:([(z69,284),(z105,366),(z130,498),(z36,130),(z15,66),(z14,45),(z68,180),(z131,509),(z132,516),(z133,521),(z134,526),(z171,533),(z172,538)]:List (Str×Addr))[i]? =some (x,a)):Lp (KK w) x a=true:=
 List.all_eq_true.mp (Vw w) (x,a) (List.mem_of_getElem? h)
structure Mk (σ0 σ:aF) (t t':Tg) (C X d:Addr) (m:List (Str×AV)) (F:G2):Prop where
 old:lW σ0 σ
 x:σ X=some (t,.inst C d)
 dd:σ d=some (t',.ns m)
 f:dJ σ F
 n:σ0 d=none
 g:(F.all λ x=>x.1 !=t')=true
 ne:t≠t'
section
variable {σ0 σ':aF} {t t':Tg} {C X d D:Addr} {m:List (Str×AV)} {F G:G2}
theorem Mk.new (hd:σ d=none) (hX:(σ.put d (t',.ns [])) X=none) (ne:t≠t'):Mk σ ((σ.put d (t',.ns [])).put X (t,.inst C d)) t t' C X d [] []:=
 ⟨((lW.refl σ).put hd).put hX,aF.put_same ..,aF.put_new _ hX (aF.put_same ..),.nil,hd,rfl,ne⟩
theorem Mk.more (q:Mk σ0 σ t t' C X d m F) (o:lW σ σ') (f:dJ σ' G) (hg:(G.all λ x=>x.1 !=t')=true):Mk σ0 σ' t t' C X d m (G++F):=
 ⟨q.old.trans o,o _ _ q.x,o _ _ q.dd,f.app (q.f.old o),q.n,by rw[List.all_append,hg,q.g];rfl,q.ne⟩
theorem Mk.add (q:Mk σ0 σ t t' C X d m F) (hD:σ D=none) (y:Tg×AO) (hy:(y.1 !=t')=true):Mk σ0 (σ.put D y) t t' C X d m ((y.1,D,y.2)::F):=
 ⟨q.old.put hD,aF.put_new _ hD q.x,aF.put_new _ hD q.dd,q.f.add hD,q.n,by rw[List.all_cons,hy,q.g];rfl,q.ne⟩
theorem Mk.set (q:Mk σ0 σ t t' C X d m F) (m':List (Str×AV)):Mk σ0 (σ.put d (t',.ns m')) t t' C X d m' F:=
 ⟨q.old.upd q.n,aF.put_tag _ q.dd q.x q.ne,aF.put_same ..,q.f.upd q.dd q.g,q.n,q.g,q.ne⟩
theorem Mk.facts (q:Mk σ0 σ t t' C X d m F):dJ σ ((t,X,.inst C d)::(t',d,.ns m)::F):=λ x hx=>by
 rcases List.mem_cons.mp hx with rfl | hx
 ·exact q.x
 ·rcases List.mem_cons.mp hx with rfl | hx
  ·exact q.dd
  ·exact q.f x hx
end
theorem dJ.sub {F G:G2} (f:dJ σ F) (h:∀(i:Nat) x,G[i]? =some x→∃j:Nat,F[j]? =some x):dJ σ G:=λ x hx=>by
 obtain ⟨i,hi,e⟩:=List.mem_iff_getElem.mp hx
 obtain ⟨j,hj⟩:=h i x (by rw[←e];exact List.getElem?_eq_getElem hi)
 exact f x (List.mem_of_getElem? hj)
noncomputable def Hb (X d A B G:Addr):G2:=[(.t 5,X,.inst 366 d),(.t 6,d,.ns [(z126,.ref A),(z127,.ref B),(z128,.ref G)]),(.t 13,G,.list []),(.t 12,B,.list []),(.t 11,A,.list [])]
noncomputable def V7 (X d A B G H:Addr):G2:=[(.t 3,X,.inst 284 d),(.t 4,d,.ns [(z101,.ref A),(z102,.ref B),(z103,.ref G),(z100,.ref H)]),(.t 10,H,.list []),(.t 9,G,.list []),(.t 8,B,.tdict []),(.t 7,A,.list [])]
theorem Ah (hn:2≤c.n) (h:∀σ' X d A B G,lW σ σ'→dJ σ' (Hb X d A B G)→Φ (.ref X) σ'):gG c σ (.ref 366) [] Φ:=by
 refine wY (.t 5) (.t 6) (Hn 1 rfl) (by exact Nat.le_of_lt ‹_›) λ vals X d hd hX=>?_
 have q0:=Mk.new (t:=.t 5) (t':=.t 6) (C:=366) hd hX (dK rfl)
 refine (tN c.w).call (c:=c.make 366 vals) (cn hn) rfl λ K=>aE (aJ (bV (.t 11) (aB ⟨by simp,λ A hA=>?_⟩)))
 have q1:=q0.add hA (.t 11,.list []) rfl
 refine cA (kZ c.w) rfl q1.x q1.dd (Nat.le_of_ble_eq_true rfl) (aM rfl rfl) ?_
 have q2:=q1.set [(z126,.ref A)]
 refine aE (aJ (bV (.t 12) (aB ⟨by simp,λ B hB=>?_⟩)))
 have q3:=q2.add hB (.t 12,.list []) rfl
 refine cA (kZ c.w) rfl q3.x q3.dd (Nat.le_of_ble_eq_true rfl) (aM rfl rfl) ?_
 have q4:=q3.set [(z126,.ref A),(z127,.ref B)]
 refine aE (aJ (bV (.t 13) (aB ⟨by simp,λ G hG=>?_⟩)))
 have q5:=q4.add hG (.t 13,.list []) rfl
 refine cA (kZ c.w) rfl q5.x q5.dd (Nat.le_of_ble_eq_true rfl) (aM rfl rfl) ?_
 have q6:=q5.set [(z126,.ref A),(z127,.ref B),(z128,.ref G)]
 exact aP ⟨.none,rfl,rfl,h _ X d A B G q6.old q6.facts⟩
theorem Gk (hn:2≤c.n) (h:∀σ' X d A B G H,lW σ σ'→dJ σ' (V7 X d A B G H)→Φ (.ref X) σ'):gG c σ (.ref 284) [] Φ:=by
 refine wY (.t 3) (.t 4) (Hn 0 rfl) (by exact Nat.le_of_lt ‹_›) λ vals X d hd hX=>?_
 have q0:=Mk.new (t:=.t 3) (t':=.t 4) (C:=284) hd hX (dK rfl)
 refine (zA c.w).call (c:=c.make 284 vals) (cn hn) rfl λ K=>aE (aJ (bV (.t 7) (aB ⟨by simp,λ A hA=>?_⟩)))
 have q1:=q0.add hA (.t 7,.list []) rfl
 refine cA (mC c.w) rfl q1.x q1.dd (Nat.le_of_ble_eq_true rfl) (aM rfl rfl) ?_
 have q2:=q1.set [(z101,.ref A)]
 refine aE (aJ (oE (.t 8) λ B hB=>?_))
 have q3:=q2.add hB (.t 8,.tdict []) rfl
 refine cA (mC c.w) rfl q3.x q3.dd (Nat.le_of_ble_eq_true rfl) (aM rfl rfl) ?_
 have q4:=q3.set [(z101,.ref A),(z102,.ref B)]
 refine aE (aJ (bV (.t 9) (aB ⟨by simp,λ G hG=>?_⟩)))
 have q5:=q4.add hG (.t 9,.list []) rfl
 refine cA (mC c.w) rfl q5.x q5.dd (Nat.le_of_ble_eq_true rfl) (aM rfl rfl) ?_
 have q6:=q5.set [(z101,.ref A),(z102,.ref B),(z103,.ref G)]
 refine aE (aJ (bV (.t 10) (aB ⟨by simp,λ H hH=>?_⟩)))
 have q7:=q6.add hH (.t 10,.list []) rfl
 refine cA (mC c.w) rfl q7.x q7.dd (Nat.le_of_ble_eq_true rfl) (aM rfl rfl) ?_
 have q8:=q7.set [(z101,.ref A),(z102,.ref B),(z103,.ref G),(z100,.ref H)]
 exact aP ⟨.none,rfl,rfl,h _ X d A B G H q8.old q8.facts⟩
noncomputable def HM.empty:HM:=⟨[],[],[],[],[],[],[],[],[],[],[]⟩
theorem Ga (hn:4≤c.n) (h:∀σ' L,lW σ σ'→aI L HM.empty σ'→Φ (.ref (L 1)) σ'):gG c σ (.ref 498) [] Φ:=by
 refine wY (.t 1) (.t 2) (Hn 2 rfl) (by exact Nat.zero_lt_of_lt ‹_›) λ vals X d hd hX=>?_
 have q0:=Mk.new (t:=.t 1) (t':=.t 2) (C:=498) hd hX (dK rfl)
 refine (yW c.w).call (c:=c.make 498 vals) (cn hn) rfl λ K=>aE (aJ (fF (lV 0 rfl) rfl (aB ?_)))
 refine Gk (c:=(c.make 498 vals).deep _) (cn2 hn) λ σ1 B dB b1 b2 b3 b4 o1 f1=>?_
 have q1:=q0.more o1 f1 rfl
 refine cA (fT c.w) rfl q1.x q1.dd (Nat.le_of_ble_eq_true rfl) (aM rfl rfl) ?_
 have q2:=q1.set [(z162,.ref B)]
 refine aE (aJ (fF (lV 1 rfl) rfl (aB ?_)))
 refine Ah (c:=(c.make 498 vals).deep _) (cn2 hn) λ σ2 U dU u1 u2 u3 o2 f2=>?_
 have q3:=q2.more o2 f2 rfl
 refine cA (fT c.w) rfl q3.x q3.dd (Nat.le_of_ble_eq_true rfl) (aM rfl rfl) ?_
 have q4:=q3.set [(z162,.ref B),(z166,.ref U)]
 refine aE (aJ (bV (.t 14) (aB ⟨by simp,λ a1 h1=>?_⟩)))
 have q5:=q4.add h1 (.t 14,.list []) rfl
 refine cA (fT c.w) rfl q5.x q5.dd (Nat.le_of_ble_eq_true rfl) (aM rfl rfl) ?_
 have q6:=q5.set [(z162,.ref B),(z166,.ref U),(z163,.ref a1)]
 refine aE (aJ (bV (.t 15) (aB ⟨by simp,λ a2 h2=>?_⟩)))
 have q7:=q6.add h2 (.t 15,.list []) rfl
 refine cA (fT c.w) rfl q7.x q7.dd (Nat.le_of_ble_eq_true rfl) (aM rfl rfl) ?_
 have q8:=q7.set [(z162,.ref B),(z166,.ref U),(z163,.ref a1),(z164,.ref a2)]
 refine aE (aJ (oE (.t 16) λ a3 h3=>?_))
 have q9:=q8.add h3 (.t 16,.tdict []) rfl
 refine cA (fT c.w) rfl q9.x q9.dd (Nat.le_of_ble_eq_true rfl) (aM rfl rfl) ?_
 have q10:=q9.set [(z162,.ref B),(z166,.ref U),(z163,.ref a1),(z164,.ref a2),(z165,.ref a3)]
 refine aE (aJ (iF (.t 17) λ a4 h4=>?_))
 have q11:=q10.add h4 (.t 17,.idict []) rfl
 refine cA (fT c.w) rfl q11.x q11.dd (Nat.le_of_ble_eq_true rfl) (aM rfl rfl) ?_
 have q12:=q11.set [(z162,.ref B),(z166,.ref U),(z163,.ref a1),(z164,.ref a2),(z165,.ref a3),(z126,.ref a4)]
 refine aE (aJ (bV (.t 18) (aB ⟨by simp,λ a5 h5=>?_⟩)))
 have L7:=q12.add h5 (.t 18,.list []) rfl
 refine cA (fT c.w) rfl L7.x L7.dd (Nat.le_of_ble_eq_true rfl) (aM rfl rfl) ?_
 have L6:=L7.set [(z162,.ref B),(z166,.ref U),(z163,.ref a1),(z164,.ref a2),(z165,.ref a3),(z126,.ref a4),(z167,.ref a5)]
 refine aE (aJ (aY ?_))
 refine cA (fT c.w) rfl L6.x L6.dd (Nat.le_of_ble_eq_true rfl) (aM rfl rfl) ?_
 have Wi:=L6.set [(z162,.ref B),(z166,.ref U),(z163,.ref a1),(z164,.ref a2),(z165,.ref a3),(z126,.ref a4),(z167,.ref a5),(z59,.int 0)]
 have f:=Wi.facts
 refine aP ⟨.none,rfl,rfl,h _ (λ i=>([0,X,d,B,dB,U,dU,b1,b2,b3,b4,u1,u2,u3,a1,a2,a3,a4,a5]:List Addr).getD i 0) Wi.old ⟨λ i t a ao hi e=>?_,nofun,nofun⟩⟩
 have ht:=cW e
 dsimp only at ht
 subst ht
 have:=f.sub (G:=(eA (λ i=>([0,X,d,B,dB,U,dU,b1,b2,b3,b4,u1,u2,u3,a1,a2,a3,a4,a5]:List Addr).getD i 0) HM.empty).tail) (λ j x hx=>⟨([0,1,12,13,7,8,17,16,15,14,11,10,9,6,5,4,3,2]:List Nat).getD j 0,?_⟩)
 ·exact this _ (List.mem_of_getElem? (i:=i-1) (by rw[List.getElem?_tail,Nat.sub_add_cancel (by exact Nat.pos_of_ne_zero ‹_›)];exact e))
 ·match j,hx with
  | 0,hx | 1,hx | 2,hx | 3,hx | 4,hx | 5,hx | 6,hx | 7,hx | 8,hx | 9,hx | 10,hx | 11,hx | 12,hx | 13,hx | 14,hx | 15,hx | 16,hx | 17,hx=>exact hx
  | n+18,hx=>cases hx
end
noncomputable def nD (x:Str):List AV:=x.cps.toList.map λ c=>.str ⟨#[c]⟩
theorem Hy {c:Cx} {I:Addr} {tgt:Expr} {x:Str} {t:Tok} (ht:iY tgt=true):Cm c (.ref I) tgt [I] (nD x) (λ i h=>h.IsStrIter I "str_ascii_iterator" x t i) where
 kin:=nn
 live:=λ i h ⟨o,ho,r⟩ a ha=>by rw[List.mem_singleton] at ha;subst ha;exact ⟨o,ho⟩
 frame:=λ i h h' ⟨o,ho,r⟩ e k=>⟨o,k I (by simp) o ho,r⟩
 self:=λ A s Q hi q=>wpAny_pyIter_striter_ascii hi q
 next:=λ A i y s Q hh hi hx k=>by
  obtain ⟨oI,hoI,hcI,hdI⟩:=id hi
  rw[nD,List.getElem?_map] at hx
  obtain ⟨cp,hcp,rfl⟩:=Option.map_eq_some_iff.mp hx
  refine wpAny_pyNext_ascii_item hi (c:=cp) (by simpa using hcp) λ h' hi' hs=>⟨_,rfl,?_⟩
  have e:Ev s.heap h':=Ev.but hoI (λ _ z=>by subst z;cases hdI) hs.extBut
  obtain ⟨o',ho',hc',_⟩:=id hi'
  exact eY ht ho' hc' (by decide) (k _ _ (by simp) hi' rfl rfl (λ b o hb z=>hs.extBut b o (λ w=>hb (by simp[w])) z) e)
 fin:=λ A s Q hh hi k=>by
  obtain ⟨oI,hoI,hcI,hdI⟩:=id hi
  refine wpAny_pyNext_ascii_end hh hi (by rw[nD,List.length_map];simp) λ h' hs=>⟨rfl,k _ rfl rfl (λ b o hb z=>hs b o (λ w=>hb (by simp[w])) z) (Ev.but hoI (λ _ z=>by subst z;cases hdI) hs) nn⟩
theorem Ft {c:Cx} {σ:aF} {x:Str} {tgt:Expr} (ht:iY tgt=true) (ha:x.cps.all (· <128)=true):hW c σ (.str x) tgt (nD x) σ:=
 λ env loc ρ s v Q q hv k=>by
  rw[VIs_str] at hv
  obtain ⟨t,rfl⟩:=hv
  refine wpAny_pyIter_ascii ha ?_
  have m:=q.more (s':={s with heap:=s.heap.push {cls:=.type "str_ascii_iterator",data:=.fields #[.str x t,.int 0 0]} }) rfl rfl λ _ _ z=>Heap.get?_push_of_some _ z
  have f:=q.toSat0.fresh (Nat.le_refl s.heap.objs.size)
  refine k _ _ [s.heap.objs.size] _ (Hy (x:=x) (t:=t) ht) ⟨_,Heap.get?_push_size _ rfl,rfl,rfl⟩ m.1 m.2 (λ b hb=>?_) λ b=>?_
  ·rw[List.mem_singleton] at hb;subst hb
   exact ⟨f.2.2,f.2.1,q.lt_frame (Nat.le_refl _)⟩
  ·unfold aF.hide
   split
   ·rename_i h;rw[List.mem_singleton] at h;subst h;exact f.1.symm
   ·rfl
noncomputable def wO (x:Str):Bool:=Txt.isspace x|| !(Builtin.Str.occurrences z197 x 0 z197.length 1).isEmpty
noncomputable def lE (x:Str):Bool:=x.cps.all (· <128)&&(x.cps.toList !=z194.cps.toList)&&(x.cps.toList.all λ c=> !(wO ⟨#[c]⟩))&&(match x.cps[0]? with | some c=>[c] !=z200.cps.toList | none=>false)
section
variable {c:Cx} {env:Env} {loc:aV} {σ:aF} {Φ:AV→aF→Prop} {x y:Str}
theorem vM {f:Value→Value→Sem Value} {r:AV} (h:Φ r σ) (k:∀(s:Shared) (t u:Tok) (Q:Value→Shared→Prop),(∀v,bH s.heap r v→Q v s)→wpAny (MM c) c.A (f (.str x t) (.str y u)) Q gD s):
  W2 c env bH loc σ (.str x) (.str y) f Φ:=λ ρ s va vb q ha hb=>by
 rw[VIs_str] at ha hb
 obtain ⟨t,rfl⟩:=ha
 obtain ⟨u,rfl⟩:=hb
 exact k s t u _ λ v hv=>⟨r,σ,hv,h,q,Ev.refl _⟩
theorem Kr (h:Φ (.bool (x.cps.toList !=y.cps.toList)) σ):W2 c env bH loc σ (.str x) (.str y) (compareOp .NotEq) Φ:=vM h λ s t u Q hQ=>P.ne_str (hQ _ (by simp))
theorem Kv (h:Φ (.bool (x.cps.toList==y.cps.toList)) σ):W2 c env bH loc σ (.str x) (.str y) (compareOp .Eq) Φ:=vM h λ s t u Q hQ=>P.eq_str (hQ _ (by simp))
theorem Ku (h:Φ (.bool (!(Builtin.Str.occurrences y x 0 y.length 1).isEmpty)) σ):W2 c env bH loc σ (.str x) (.str y) (compareOp .In) Φ:=vM h λ s t u Q hQ=>P.in_str (hQ _ (by simp))
theorem vT:fP c σ (.str x) z196 (.builtin "str.isspace"):=λ env loc ρ s v pl Q q hv h=>by
 rw[VIs_str] at hv
 obtain ⟨t,rfl⟩:=hv
 exact GM.isspace h
theorem Ag (h:Φ (.bool (Txt.isspace x)) σ):WC c env loc σ (.builtin "str.isspace") [.str x] Φ:=WC.one λ ρ s v q hv=>by
 rw[VIs_str] at hv
 obtain ⟨t,rfl⟩:=hv
 exact SC.isspace ⟨_,σ,by simp,h,q,Ev.refl _⟩
theorem Fu {i:Nat} {cp:Nat} (hc:x.cps[i]? =some cp) (hl:i<x.length) (hi:i<2^63) (h:Φ (.str ⟨#[cp]⟩) σ):WG c env loc σ (.str x) (.int i) Φ:=λ ρ s va vk q ha hk=>by
 rw[VIs_str] at ha
 rw[VIs_int] at hk
 obtain ⟨t,rfl⟩:=ha
 obtain ⟨u,rfl⟩:=hk
 refine ⟨"str",_,F.slot_str_getitem.lookup,typeIs_str _ _ _,P.getItem_str (c:=cp) (by simp;exact AU hi) (by rw[mE hl];exact hc) ⟨_,σ,by simp,h,q.toks _,Ev.refl _⟩⟩
end
section
variable {c:Cx} {σ:aF} {Φ:AV→aF→Prop} {x:Str}
theorem qT (h:lE x=true):x.cps.all (· <128)=true∧(x.cps.toList !=z194.cps.toList)=true∧(∀c∈x.cps.toList,wO ⟨#[c]⟩=false)∧∃c,x.cps[0]? =some c∧([c]==z200.cps.toList)=false:=by
 unfold lE at h
 rw[Bool.and_eq_true,Bool.and_eq_true,Bool.and_eq_true] at h
 obtain ⟨⟨⟨h1,h2⟩,h3⟩,h4⟩:=h
 refine ⟨h1,h2,λ c hc=>by simpa using List.all_eq_true.mp h3 c hc,?_⟩
 cases e:x.cps[0]? with
 | none=>rw[e] at h4;cases h4
 | some c=>
  rw[e] at h4
  refine ⟨c,rfl,?_⟩
  have h5:([c] !=z200.cps.toList)=true:=h4
  rw[bne_iff_ne] at h5
  exact beq_eq_false_iff_ne.mpr h5
theorem Fz (hc:1≤c.n) (hx:lE x=true) (hz:x.cps.toList.length≤100000) (h:∀σ',fQ σ σ'→lW σ σ'→Φ (.bool true) σ'):gG c σ (.ref 180) [.str x] Φ:=by
 obtain ⟨h1,h2,h3,_⟩:=qT hx
 refine (H5 c.w).call hc rfl λ K=>aE (aR (Ih (gT (aC rfl rfl (fB (Kr ⟨_,rfl,?_⟩))))))
 rw[h2,if_pos rfl]
 refine gT (bW (cl:=[]) (bY.of (by kernel_rfl) rfl nn .nil) (.t 0) (aC rfl rfl ⟨_,_,Ft rfl h1,?_,λ i acc σ'=>σ=σ'∧acc=[],⟨⟨rfl,rfl⟩,?_⟩,?_⟩))
 ·rw[nD,List.length_map];exact hz
 ·rintro C i y acc _ hy ⟨rfl,rfl⟩
  rw[nD,List.getElem?_map] at hy
  obtain ⟨cp,hcp,rfl⟩:=Option.map_eq_some_iff.mp hy
  have hb:=h3 cp (List.mem_of_getElem? hcp)
  unfold wO at hb
  obtain ⟨b1,b2⟩:=Bool.or_eq_false_iff.mp hb
  refine kF ?_
  refine gB (wV (aC (if_pos rfl) rfl ⟨_,vT,aK,aB (Ag (fS ?_))⟩))
  rw[b1,if_pos (by rfl)]
  refine aT (aC (if_pos rfl) rfl (fB (Ku ⟨_,rfl,?_⟩)))
  rw[b2,if_pos (by rfl)]
  exact ⟨rfl,rfl⟩
 ·rintro acc _ D ⟨rfl,rfl⟩ hl hD
  refine bV (.t 0) (aB ⟨by simp,λ D2 hD2=>?_⟩)
  refine Ep (xs:=[]) (ys:=[]) (aF.put_new _ hD2 (aF.put_same ..)) (aF.put_same ..) ⟨_,rfl,h _ (((fQ.refl σ).put (.inl hD)).put (.inl hD2)) (((lW.refl σ).put hD).put hD2)⟩
theorem At (hc:2≤c.n) (hx:lE x=true) (hz:x.cps.toList.length≤100000) {B:Addr} (h:∀σ',fQ σ σ'→lW σ σ'→Φ .none σ'):gG c σ (.ref 213) [.ref B,.str x] Φ:=by
 obtain ⟨h1,h2,h3,cp,h4,h5⟩:=qT hx
 refine (sG c.w).call (c1 hc) rfl λ K=>aE (eG (kF ?_))
 refine sY (gB (fF (lV 6 rfl) rfl (aA (aC rfl rfl (aB ?_)))))
 refine Fz (c:=c.deep _) (cn hc) hx hz λ σ' e1 o1=>fS ?_
 rw[if_pos (by rfl)]
 have hl:0<x.length:=by
  have:=(Array.getElem?_eq_some_iff.mp h4).1
  exact this
 refine aT (bF (aC rfl rfl (aY (Fu (i:=0) h4 hl (by decide) (fB (Kv ⟨_,rfl,?_⟩))))))
 rw[h5,if_pos (by rfl)]
 exact aP (aP ⟨_,rfl,h σ' e1 o1⟩)
end
structure iZ (F:G2) (M:HM) (σ:aF):Prop where
 tg:∀(i:Nat) x,F[i]? =some x→x.1= .t i
 fix:∀(i:Nat) t a ao,i≠0→F[i]? =some (t,a,ao)→σ a=some (t,ao)
 lot:∀(i:Nat) a l,M.lots[i]? =some (a,l)→σ a=some (.u 1 i,.list (aS l))
 abv:∀(k:Nat) a l,((k:Int),a,l)∈M.above→σ a=some (.u 2 k,.list (aS l))
noncomputable def HM.taken (M:HM) (op:Str) (ks:List Int) (w d:Int):HM:={M with nodes:=M.nodes++[(op,ks)],weights:=M.weights++[w],depths:=M.depths++[d]}
section
variable {σ:aF} {L:HL} {M:HM} {F:G2}
theorem iZ.of (q:aI L M σ):iZ (eA L M) M σ:=⟨λ i x h=>cW h,q.fix,q.lot,q.abv⟩
theorem iZ.set (q:iZ F M σ) (i:Nat) {a:Addr} {ao:AO} (ao':AO) (h:F[i]? =some (.t i,a,ao):=by rfl) (hi:i≠0:=by decide):iZ (F.set i (.t i,a,ao')) M (σ.put a (.t i,ao')) where
 tg:=λ j x e=>by
  rw[List.getElem?_set] at e
  split at e
  ·rename_i e2;subst e2
   split at e
   ·cases e;rfl
   ·cases e
  ·exact q.tg j x e
 fix:=λ j t b bo hj e=>by
  rw[List.getElem?_set] at e
  by_cases hij:i=j
  ·subst hij
   rw[if_pos rfl] at e
   split at e
   ·cases e;exact aF.put_same ..
   ·cases e
  ·rw[if_neg hij] at e
   have ht:=q.tg j _ e
   dsimp only at ht
   subst ht
   exact aF.put_tag _ (q.fix i _ _ _ hi h) (q.fix j _ b bo hj e) (λ x=>by cases x;exact hij rfl)
 lot:=λ j b l e=>by have h0:=q.fix i _ _ _ hi h;exact aF.put_tag _ h0 (q.lot j b l e) (dK rfl)
 abv:=λ k b l e=>by have h0:=q.fix i _ _ _ hi h;exact aF.put_tag _ h0 (q.abv k b l e) (dK rfl)
theorem iZ.new (q:iZ F M σ) {D:Addr} (hD:σ D=none) (y:Tg×AO):iZ F M (σ.put D y):=
 ⟨q.tg,λ i t a ao h e=>aF.put_new _ hD (q.fix i t a ao h e),λ i a l e=>aF.put_new _ hD (q.lot i a l e),λ k a l e=>aF.put_new _ hD (q.abv k a l e)⟩
theorem iZ.at (q:iZ F M σ) (i:Nat) {t:Tg} {a:Addr} {ao:AO} (h:F[i]? =some (t,a,ao):=by rfl) (hi:i≠0:=by decide):σ a=some (t,ao):=q.fix i t a ao hi h
theorem xQ {ns:List (Str×List Int)} (k:cH):(kH (bS ns) k=none∧∀(i:Nat) n,ns[i]? =some n→cR n≠k)∨∃(i:Nat) (n:Str×List Int),kH (bS ns) k=some (.int i)∧ns[i]? =some n∧cR n=k:=by
 unfold kH
 cases e:(bS ns).find? λ e=>decide (e.1=k) with
 | none=>
  refine .inl ⟨rfl,λ i n hn hk=>?_⟩
  have:=List.find?_eq_none.mp e (cR n,.int i) (by
   unfold bS
   rw[List.mem_mapIdx]
   obtain ⟨hl,e2⟩:=List.getElem?_eq_some_iff.mp hn
   exact ⟨i,hl,by rw[e2]⟩)
  exact this (decide_eq_true hk)
 | some p=>
  have h1:=List.find?_some e
  have h2:=List.mem_of_find?_eq_some e
  unfold bS at h2
  rw[List.mem_mapIdx] at h2
  obtain ⟨i,hl,rfl⟩:=h2
  exact .inr ⟨i,ns[i],rfl,List.getElem?_eq_getElem hl,by simpa using h1⟩
theorem xR (ns:List (Str×List Int)) (n:Str×List Int):bS (ns++[n])=bS ns++[(cR n,.int (ns.length:Int))]:=by
 unfold bS
 rw[List.mapIdx_append,List.mapIdx_cons,List.mapIdx_nil,Nat.zero_add]
end
section
variable {c:Cx} {σ:aF} {Φ:AV→aF→Prop} {L:HL} {M:HM}
theorem wU {env:Env} {loc:aV} {o:Expr} {name:Str} {pos:Pos} {x C d:Addr} {t t':Tg} {m:List (Str×AV)} {v:AV} (hx:σ x=some (t,.inst C d)) (hd:σ d=some (t',.ns m)) (hm:m.lookup name=some v) (ha:lR (KK c.w) C name=true) (hv:v.handed=true)
  (ho:∀Ψ:AV→aF→Prop,Ψ (.ref x) σ→WE c env loc σ o Ψ) (hbase:attributeBase o name env (eval o env)=eval o env:=by with_unfolding_all rfl):∀Ψ:AV→aF→Prop,Ψ v σ→WE c env loc σ (.Attribute o name pos) Ψ:=λ Ψ h=>fO hx hd hm ha hv ho h hbase
theorem Vx {l:List Int} {k:Int} (h0:0≤k) (h:k<l.length):∃n:Nat,k=n∧n<l.length∧(aS l)[n]? =some (.int (l.getD k.toNat 0)):=by
 obtain ⟨n,rfl⟩:=Int.eq_ofNat_of_zero_le h0
 refine ⟨n,rfl,by exact Fk h,?_⟩
 rw[aS,List.getElem?_map,List.getD_eq_getElem?_getD,Int.toNat_natCast,List.getElem?_eq_getElem (by exact Fk h)];rfl
theorem He (hc:3≤c.n) (q:aI L M σ) (hN:M.nodes.length≤1000) (hw:M.weights.length=M.nodes.length) (hd:M.depths.length=M.nodes.length) (hwb:∀x∈M.weights,0≤x∧x≤1000000) {op:Str} {ks:List Int} (hop:lE op=true)
  (hoz:op.cps.toList.length≤100000) (hkl:ks.length≤3) (hks:∀k∈ks,0≤k∧k<M.nodes.length)
  (hold:∀i:Nat,M.nodes[i]? =some (op,ks)→Φ (.int i) σ)
  (hnew:∀σ' d,(∀i:Nat,M.nodes[i]?≠some (op,ks))→fQ σ σ'→aI L (M.taken op ks (1+(ks.map λ k=>M.weights.getD k.toNat 0).sum) d) σ'→Φ (.int (M.nodes.length:Nat)) σ'):
  gG c σ (.ref 206) [.ref (L 3),.str op,.tup (aS ks)] Φ:=by
 have kinj:∀n:Str×List Int,cR n=cR (op,ks)→n=(op,ks):=λ n h=>by
  obtain ⟨a,b⟩:=n
  unfold cR at h
  rw[List.cons.injEq] at h
  have h1:a=op:=bZ.s.inj h.1
  have h2:b=ks:=kE h.2
  rw[h1,h2]
 have hav:AV.tup (.str op::aS ks)=(cR (op,ks)).av:=(gI (op,ks)).symm
 have lnum:(bS M.nodes).length=M.nodes.length:=by unfold bS;exact List.length_mapIdx
 have lnod:(M.nodes.map λ n=>(cR n).av).length=M.nodes.length:=List.length_map ..
 have p0:=iZ.of q
 refine (yY c.w).call (c1 hc) rfl λ K=>aE (aJ (aU (aZ (aA (aC rfl rfl (aB ⟨by simp,bP (cE c.w 7 rfl) rfl bN (aA (aC rfl rfl (aB (Cr (pU ?_ (by rw[aN];simp;exact K3 hkl))))))⟩))))))
 refine eJ rfl ?_ (by intro b hb;have:=List.mem_singleton.mp hb;cases this)
 have slf:∀(loc:aV) (σ:aF) (p:Pos),loc z23=some (.ref (L 3))→∀Ψ:AV→aF→Prop,Ψ (.ref (L 3)) σ→WE (c.deep (bB iQ K 206)) (bB iQ K 206) loc σ (.Name z23 p) Ψ:=λ loc σ p h=>dH (a:=K+1) h (.inl rfl) rfl
 show WS _ _ _ _ (execs (mV 1 pA) _) _
 rw[show [AV.str op]++aS ks= .str op::aS ks from rfl]
 refine aE (eG (aT (aC rfl rfl (sX q (slf _ _ _ rfl) rfl rfl rfl ?_))))
 rw[hav]
 refine Kt (q.at 8) ⟨_,rfl,?_⟩
 rcases xQ (ns:=M.nodes) (cR (op,ks)) with ⟨hn,hno⟩ | ⟨i,n,hi,hni,hk⟩
 case inr=>
  rw[hi,if_pos (by rfl)]
  refine aE (aR (bF (sX q (slf _ _ _ rfl) rfl rfl rfl (aC rfl rfl (A5 (k:=cR (op,ks)) (q.at 8) hi ⟨_,rfl,?_⟩)))))
  rw[kinj n hk] at hni
  exact hold i hni
 rw[hn,if_neg (by simp)]
 refine aP (aE (bA (bG (q.at 3) (q.at 4) rfl (gX (vV c.w) 3 rfl) (slf _ _ _ rfl) (aA (aC rfl rfl (aB ?_))))))
 refine At (c:=c.deep _) (cn hc) hop hoz λ σ1 E1 o1=>?_
 have q1:=q.more o1
 refine aE (lT (gS (aC rfl rfl ⟨_,_,hav.symm,?_⟩)))
 refine ⟨_,_,dQ rfl,λ i loc σ'=>loc z23=some (.ref (L 3))∧loc z78=some (.tup (.str op::aS ks))∧σ1=σ',⟨rfl,by rw[hav];rfl,rfl⟩,?_,?_⟩
 ·rintro i x loc _ hx ⟨h1,h2,rfl⟩
  rw[aS,List.getElem?_map] at hx
  obtain ⟨k,hk,rfl⟩:=Option.map_eq_some_iff.mp hx
  obtain ⟨k0,k1⟩:=hks k (List.mem_of_getElem? hk)
  refine eJ rfl ?_ (by intro b hb;have:=List.mem_singleton.mp hb;cases this)
  refine aE (eG (sY (zR (aY (aC rfl rfl (L9 ⟨_,rfl,?_⟩))))))
  rw[decide_eq_true k0,if_pos rfl]
  refine bP (cZ c.w) rfl aK (aA (sX q1 (slf _ _ _ h1) rfl rfl rfl (aB (bK (q1.at 7) (Nat.le_trans (Nat.le_of_eq lnod) (by exact Nat.le_trans ‹_› (Nat.le_of_ble_eq_true rfl))) (uM ⟨_,rfl,?_⟩)))))
  rw[lnod,decide_eq_true k1,if_neg (by simp)]
  exact aP (aP ⟨h1,h2,rfl⟩)
 rintro loc _ ⟨s1,s2,rfl⟩
 refine aE (aJ (bP (cZ c.w) rfl aK (aA (sX q1 (slf _ _ _ s1) rfl rfl rfl (aB (bK (q1.at 7) (Nat.le_trans (Nat.le_of_eq lnod) (by exact Nat.le_trans ‹_› (Nat.le_of_ble_eq_true rfl))) ?_))))))
 rw[lnod]
 refine gU (sX q1 (slf _ _ _ s1) rfl rfl rfl (aC s2 rfl ?_))
 rw[hav]
 refine Ap (k:=cR (op,ks)) (x:=.int (M.nodes.length:Int)) (q1.at 8) (Nat.le_trans (Nat.le_of_eq lnum) (by exact Nat.le_trans ‹_› (Nat.le_of_ble_eq_true rfl))) ?_
 have et:Ak (bS M.nodes) (cR (op,ks)) (.int (M.nodes.length:Int))=bS (M.nodes++[(op,ks)]):=by
  unfold Ak
  rw[hn,xR];rfl
 rw[et]
 have p2:=(iZ.of q1).set 8 (.tdict (bS (M.nodes++[(op,ks)])))
 have E2:=E1.put (y:=(.t 8,.tdict (bS (M.nodes++[(op,ks)])))) (.inr ⟨_,_,rfl,q1.at 8⟩)
 refine aE (bA (cO (cN (p2.at 7)) (wU (p2.at 3) (p2.at 4) rfl (Bm (lS c.w) rfl) rfl (slf _ _ _ s1)) (aA (aC s2 rfl (aB (bR (p2.at 7) (Nat.le_trans (Nat.le_of_eq lnod) (by exact Nat.le_trans ‹_› (Nat.le_of_ble_eq_true rfl))) ?_))))))
 rw[show (M.nodes.map λ n=>(cR n).av)++[AV.tup (.str op::aS ks)]=(M.nodes++[(op,ks)]).map λ n=>(cR n).av by rw[List.map_append,hav];rfl]
 have p3:=p2.set 7 (.list ((M.nodes++[(op,ks)]).map λ n=>(cR n).av))
 have E3:=E2.put (y:=(.t 7,.list ((M.nodes++[(op,ks)]).map λ n=>(cR n).av))) (.inr ⟨_,_,rfl,p2.at 7⟩)
 refine aE (bA (cO (cN (p3.at 9)) (wU (p3.at 3) (p3.at 4) rfl (Bm (lS c.w) rfl) rfl (slf _ _ _ s1)) (aA (aU (aY (bP (cE c.w 4 rfl) rfl aK (aA (bW (cl:=[(z23,K+1)]) (bY.of (by kernel_rfl) rfl (λ p hp=>hp) (List.pairwise_singleton _ _)) (.t 0) ?_))))))))
 refine gS (aC s2 rfl ⟨_,_,rfl,_,_,dQ rfl,by rw[aN];exact vW hkl,λ j acc σ''=>σ''=_∧acc=aS ((ks.take j).map λ k=>M.weights.getD k.toNat 0),⟨⟨rfl,rfl⟩,?_⟩,?_⟩)
 ·rintro C j y acc σ'' hy ⟨rfl,rfl⟩
  rw[aS,List.getElem?_map] at hy
  obtain ⟨k,hk,rfl⟩:=Option.map_eq_some_iff.mp hy
  obtain ⟨k0,k1⟩:=hks k (List.mem_of_getElem? hk)
  obtain ⟨n,rfl,hn1,hn2⟩:=Vx (l:=M.weights) k0 (by exact Jc hw k1)
  refine bF (fO (p3.at 3) (p3.at 4) rfl (Bm (lS c.w) rfl) rfl (dH (a:=K+1) s1 (.inl rfl) rfl) (aC (if_pos rfl) rfl (bC (p3.at 9) hn2 (by exact Jk hN k1) ⟨rfl,?_⟩)))
  rw[List.take_add_one,hk,List.map_append,←dG];rfl
 rintro acc σ'' D ⟨rfl,rfl⟩ hl hD
 rw[aN,List.take_length]
 have p4:=p3.new hD (.t 0,.list (aS (ks.map λ k=>M.weights.getD k.toNat 0)))
 have E4:=E3.put (y:=(.t 0,.list (aS (ks.map λ k=>M.weights.getD k.toNat 0)))) (.inl hD)
 refine aB (vI (aF.put_same ..) (λ x hx=>?_) (by rw[List.length_map];exact K2 hkl) (eX (aB ?_)))
 ·obtain ⟨k,hk,rfl⟩:=List.mem_map.mp hx
  obtain ⟨k0,k1⟩:=hks k hk
  rw[List.getD_eq_getElem?_getD,List.getElem?_eq_getElem (by exact Rl hw k0 k1)]
  exact hwb _ (List.getElem_mem _)
 refine bR (p4.at 9) (by rw[aN];exact B5 hN hw) ?_
 rw[show aS M.weights++[AV.int (1+(ks.map λ k=>M.weights.getD k.toNat 0).sum)]=aS (M.weights++[1+(ks.map λ k=>M.weights.getD k.toNat 0).sum]) by rw[←dG];rfl]
 have p5:=p4.set 9 (.list (aS (M.weights++[1+(ks.map λ k=>M.weights.getD k.toNat 0).sum])))
 have E5:=E4.put (y:=(.t 9,.list (aS (M.weights++[1+(ks.map λ k=>M.weights.getD k.toNat 0).sum])))) (.inr ⟨_,_,rfl,p4.at 9⟩)
 refine aE (bA (cO (cN (p5.at 10)) (wU (p5.at 3) (p5.at 4) rfl (Bm (lS c.w) rfl) rfl (slf _ _ _ s1)) (aA (aU (aY (bP (cE c.w 2 rfl) rfl aK (aA (aU (bW (cl:=[(z23,K+1)]) (bY.of (by kernel_rfl) rfl (λ p hp=>hp) (List.pairwise_singleton _ _)) (.t 0) ?_)))))))))
 refine gS (aC s2 rfl ⟨_,_,rfl,_,_,dQ rfl,by rw[aN];exact vW hkl,λ j acc σ''=>σ''=_∧acc=aS ((ks.take j).map λ k=>M.depths.getD k.toNat 0),⟨⟨rfl,rfl⟩,?_⟩,?_⟩)
 ·rintro C j y acc σ'' hy ⟨rfl,rfl⟩
  rw[aS,List.getElem?_map] at hy
  obtain ⟨k,hk,rfl⟩:=Option.map_eq_some_iff.mp hy
  obtain ⟨k0,k1⟩:=hks k (List.mem_of_getElem? hk)
  obtain ⟨n,rfl,hn1,hn2⟩:=Vx (l:=M.depths) k0 (by exact Jc hd k1)
  refine bF (fO (p5.at 3) (p5.at 4) rfl (Bm (lS c.w) rfl) rfl (dH (a:=K+1) s1 (.inl rfl) rfl) (aC (if_pos rfl) rfl (bC (p5.at 10) hn2 (by exact Jk hN k1) ⟨rfl,?_⟩)))
  rw[List.take_add_one,hk,List.map_append,←dG];rfl
 rintro acc σ'' D2 ⟨rfl,rfl⟩ hl2 hD2
 rw[aN,List.take_length]
 have p6:=p5.new hD2 (.t 0,.list (aS (ks.map λ k=>M.depths.getD k.toNat 0)))
 have E6:=E5.put (y:=(.t 0,.list (aS (ks.map λ k=>M.depths.getD k.toNat 0)))) (.inl hD2)
 refine bV (.t 0) (aA (aY (aB ⟨by simp,λ D3 hD3=>?_⟩)))
 have p7:=p6.new hD3 (.t 0,.list [.int 0])
 have E7:=E6.put (y:=(.t 0,.list [.int 0])) (.inl hD3)
 refine mF (.t 0) (aF.put_new _ hD3 (aF.put_same ..)) (aF.put_same ..) (by rw[aN,List.length_map];simp;exact Mg hkl) λ D4 hD4=>?_
 rw[show aS (ks.map λ k=>M.depths.getD k.toNat 0)++[AV.int 0]=aS ((ks.map λ k=>M.depths.getD k.toNat 0)++[0]) by rw[←dG];rfl]
 have p8:=p7.new hD4 (.t 0,.list (aS ((ks.map λ k=>M.depths.getD k.toNat 0)++[0])))
 have E8:=E7.put (y:=(.t 0,.list (aS ((ks.map λ k=>M.depths.getD k.toNat 0)++[0])))) (.inl hD4)
 refine aB (vK (aF.put_same ..) (by simp) λ m hm1 hm2=>eX (aB ?_))
 refine bR (p8.at 10) (by rw[aN];exact B5 hN hd) ?_
 rw[show aS M.depths++[AV.int (1+m)]=aS (M.depths++[1+m]) by rw[←dG];rfl]
 have p9:=p8.set 10 (.list (aS (M.depths++[1+m])))
 have E9:=E8.put (y:=(.t 10,.list (aS (M.depths++[1+m])))) (.inr ⟨_,_,rfl,p8.at 10⟩)
 have ln:((M.nodes++[(op,ks)]).map λ n=>(cR n).av).length=M.nodes.length+1:=by rw[List.length_map,List.length_append];rfl
 refine aE (aR (aU (bP (cZ c.w) rfl aK (aA (fO (p9.at 3) (p9.at 4) rfl (Bm (lS c.w) rfl) rfl (slf _ _ _ s1) (aB (bK (p9.at 7) (Nat.le_trans (Nat.le_of_eq ln) (by exact Nat.lt_of_le_of_lt ‹_› (Nat.le_of_ble_eq_true rfl))) (aY (nH ⟨_,rfl,?_⟩)))))))))
 rw[ln,show ((M.nodes.length+1:Nat):Int)-1=(M.nodes.length:Int) by exact Ey]
 exact hnew _ (1+m) (λ i hi=>hno i _ hi rfl) E9 ⟨λ i t a ao hi e=>p9.fix i t a ao hi e,p9.lot,p9.abv⟩
end
noncomputable def gE (N:Nat):List Int:=aQ (List.range N)
theorem dI (N:Nat):(gE N).length=N:=by rw[gE,dL,List.length_range]
theorem mO {N i:Nat} {j:Int} (h:(gE N)[i]? =some j):i<N∧j=i:=by
 unfold gE aQ at h
 rw[List.getElem?_map] at h
 obtain ⟨x,hx,rfl⟩:=Option.map_eq_some_iff.mp h
 obtain ⟨hl,e⟩:=List.getElem?_eq_some_iff.mp hx
 rw[List.getElem_range] at e
 rw[List.length_range] at hl
 exact ⟨hl,by exact Td e⟩
theorem Cc {N i:Nat} (h:i<N):(gE N)[i]? =some (i:Int):=by
 unfold gE aQ
 rw[List.getElem?_map,List.getElem?_range h];rfl
theorem pY (N:Nat):iH (gE N):=λ i j h=>by
 obtain ⟨_,rfl⟩:=mO h
 exact ⟨by exact Int.natCast_nonneg _,by exact Zp⟩
theorem dY {N a:Nat} (h:a<N):root (gE N) a=a:=hZ (pY N) (Cc h)
theorem yH:∀N:Nat,2*(gE N).sum≤(N:Int)*N
 | 0=>by decide
 | N+1=>by
  have:=yH N
  have e:gE (N+1)=gE N++[(N:Int)]:=by unfold gE;rw[List.range_succ,gK];rfl
  rw[e,List.sum_append,List.sum_cons,List.sum_nil]
  have e2:((N+1:Nat):Int)*((N+1:Nat):Int)=(N:Int)*N+2*N+1:=by
   rw[Int.natCast_add,Int.add_mul,Int.mul_add]
   exact Zq
  rw[e2]
  exact Mw this
structure Sgl0 (M:HM) (N:Nat):Prop where
 few:N≤40
 up:M.up=gE N
 nodes:M.nodes.length=N
 lots:M.lots.length=N
 lot:∀i,i<N→M.lot i=[(i:Int)]
 mg:M.merged=[]
 ed:M.edges=[]
 fo:M.forest=[]
 wa:M.waiting=[]
 kids:∀(i:Nat) n,M.nodes[i]? =some n→n.2.length≤3∧∀k∈n.2,0≤k∧k<i
 keys:M.above.map (·.1)=gE N
 tot:tot M.above≤40
 kl:M.known.length≤N
section
variable {M:HM} {N:Nat}
theorem iO (N:Nat):(gE N).Nodup:=List.nodup_range.map _ λ x y hxy e=>hxy (Int.ofNat.inj e)
theorem Sgl0.ok (g:Sgl0 M N):gH M:=by
 have hf:=g.few
 have hs:=yH N
 have hlen:M.up.length=N:=by rw[g.up,dI]
 have hNN:(N:Int)*N≤1600:=by
  have:N*N≤40*40:=Nat.mul_le_mul hf hf
  exact BA this
 have hsum:M.up.sum≤800:=by rw[g.up];exact Mx hs hNN
 refine {
  up:=by rw[g.up];exact pY N
  few:=by rw[hlen];exact hf
  lots:=by rw[hlen];exact g.lots
  nodes:=by rw[hlen];exact g.nodes
  kids:=g.kids
  lotR:=λ i hi=>?_
  mg:=by rw[g.mg];show (0:Int)+_≤_;exact Su hsum
  fo:=by rw[g.fo];show (0:Int)+_≤_;exact Su hsum
  wa:=by rw[g.wa];have:=Nat.le_trans g.kl hf;show (M.known.length:Int)+(0:Int)+_≤_;exact Mt hsum this
  abk:=λ i hi=>?_
  abd:=by rw[g.keys];exact iO N
  ab40:=g.tot
  ups:=by rw[g.up];exact (pY N).nn
  abn:=by have h1:=congrArg List.length g.keys;rw[List.length_map,dI] at h1;exact Sw hf h1}
 ·rw[g.up] at hi
  obtain ⟨hi,_⟩:=mO hi
  rw[g.lot i hi,hlen]
  refine ⟨List.nodup_cons.mpr ⟨List.not_mem_nil,List.nodup_nil⟩,λ x=>?_⟩
  rw[List.mem_singleton,g.up]
  constructor
  ·rintro rfl;exact ⟨i,hi,rfl,dY hi⟩
  ·rintro ⟨a,ha,rfl,e⟩
   rw[dY ha] at e
   rw[e]
 ·rw[g.up] at hi
  obtain ⟨hi,_⟩:=mO hi
  have:(i:Int)∈M.above.map (·.1):=by rw[g.keys];exact List.mem_of_getElem? (Cc hi)
  obtain ⟨⟨k,a,l⟩,hp,e⟩:=List.mem_map.mp this
  exact ⟨a,l,by rw[←e];exact hp⟩
theorem Sgl0.key (g:Sgl0 M N) {i:Nat} {n:Str×List Int} (h:M.nodes[i]? =some n):M.keyAt i=cR n:=by
 have hi:i<N:=g.nodes▸(List.getElem?_eq_some_iff.mp h).1
 rw[←Fq h]
 unfold HM.key
 congr 2
 conv=>rhs;rw[←List.map_id n.2]
 refine List.map_congr_left λ k hk=>?_
 obtain ⟨k0,k1⟩:=(g.kids i n h).2 k hk
 obtain ⟨m,rfl⟩:=Int.eq_ofNat_of_zero_le k0
 rw[g.up,Int.toNat_natCast,dY (by exact Qk hi k1)];rfl
structure Sgl (M:HM) (N:Nat):Prop extends Sgl0 M N where
 k1:∀(i:Nat) n,M.nodes[i]? =some n→fM M.known (cR n)=some (i:Int)
 k2:∀k m,(k,m)∈M.known→∃(i:Nat) (n:Str×List Int),m=i∧M.nodes[i]? =some n∧k=cR n
 us:∀(i:Nat) n,M.nodes[i]? =some n→∀k∈n.2,(i:Int)∈(M.ab k).2
 ur:∀i:Nat,i<N→∀x∈(M.ab i).2,∃n:Nat,n<N∧x=n
 wl:M.weights.length=N
 dl:M.depths.length=N
 ww:∀(i:Nat) n,M.nodes[i]? =some n→M.weights[i]? =some (1+(n.2.map λ k=>M.weights.getD k.toNat 0).sum)
theorem pV (g:Sgl0 M N) {i:Nat} (h:i<N):∃n,M.nodes[i]? =some n∧qS M.nodes i=n.1∧aL M.nodes i=n.2.map Int.toNat:=by
 have hl:i<M.nodes.length:=by rw[g.nodes];exact h
 refine ⟨_,List.getElem?_eq_getElem hl,?_,?_⟩
 ·unfold qS;rw[List.getD_eq_getElem?_getD,List.getElem?_eq_getElem hl];rfl
 ·unfold aL;rw[List.getD_eq_getElem?_getD,List.getElem?_eq_getElem hl];rfl
theorem Sgl.inv (g:Sgl M N):eQ M [] λ _=>False:=by
 have hlen:M.up.length=N:=by rw[g.up,dI]
 refine ⟨λ e _ a ha=>?_,λ k m h=>?_,λ n hn _=>?_,λ n hn k hk=>?_,λ i hi x hx=>?_,λ x hx=>?_⟩
 ·rw[g.up,dY (hlen▸ha)]
 ·obtain ⟨i,n,rfl,h1,rfl⟩:=g.k2 k m h
  have hi:i<N:=g.nodes▸(List.getElem?_eq_some_iff.mp h1).1
  obtain ⟨n',h2,h3,h4⟩:=pV g.toSgl0 hi
  rw[h1] at h2;cases h2
  refine ⟨i,aL M.nodes i,rfl,hlen.symm▸hi,?_,λ e _=>rfl⟩
  have:=g.toSgl0.key h1
  rw[←this]
  unfold HM.keyAt
  congr 3
  conv=>rhs;rw[←List.map_id (aL M.nodes i)]
  refine List.map_congr_left λ k hk=>?_
  rw[g.up,dY (Nat.lt_trans (g.toSgl0.ok.kid (hlen.symm▸hi) hk) hi)];rfl
 ·rw[hlen] at hn
  obtain ⟨n',h2,h3,h4⟩:=pV g.toSgl0 hn
  exact .inr ⟨n,by rw[g.toSgl0.key h2];exact g.k1 n n' h2,hlen.symm▸hn,rfl⟩
 ·rw[hlen] at hn
  obtain ⟨n',h2,h3,h4⟩:=pV g.toSgl0 hn
  have hkn:=g.toSgl0.ok.kid (hlen.symm▸hn) hk
  rw[h4] at hk
  obtain ⟨x,hx,rfl⟩:=List.mem_map.mp hk
  obtain ⟨x0,_⟩:=(g.kids n n' h2).2 x hx
  rw[g.up,dY (Nat.lt_trans hkn hn),Int.toNat_of_nonneg x0]
  exact g.us n n' h2 x hx
 ·rw[g.up] at hi
  rw[hlen]
  exact g.ur i (mO hi).1 x hx
 ·rw[g.wa] at hx;cases hx
end
noncomputable def dS (x:Co) (k:Int):List Int:=((x.lookup k).getD (0,[])).2
theorem jR {x:Co} (hd:(x.map (·.1)).Nodup) {k:Int} {a:Addr} {l:List Int} (h:(k,a,l)∈x):dS x k=l:=by
 unfold dS
 rw[fK hd h];rfl
theorem iC {x:Co} {k:Int} (h:k∉x.map (·.1)):dS x k=[]:=by
 unfold dS
 have:x.lookup k=none:=by
  induction x with
  | nil=>rfl
  | cons p r ih=>
   rw[List.map_cons,List.mem_cons,not_or] at h
   rw[List.lookup_cons,show (k==p.1)=false by simpa using h.1]
   exact ih h.2
 rw[this];rfl
theorem wS {x:Co} {k:Int} (h:k∈x.map (·.1)) (hd:(x.map (·.1)).Nodup):∃a,(k,a,dS x k)∈x:=by
 obtain ⟨⟨k',a,l⟩,hp,e⟩:=List.mem_map.mp h
 dsimp only at e
 subst e
 exact ⟨a,by rw[jR hd hp];exact hp⟩
theorem Gl {x:Co} {k j:Int} {a:Addr} {l:List Int} (hd:(x.map (·.1)).Nodup) (hk:k∈x.map (·.1)) (hj:j∈x.map (·.1)):dS (x.map λ p=>if p.1=k then (p.1,a,l) else p) j=if j=k then l else dS x j:=by
 have hd':((x.map λ p=>if p.1=k then (p.1,a,l) else p).map (·.1)).Nodup:=by rw[rD];exact hd
 obtain ⟨b,hb⟩:=wS hj hd
 by_cases e:j=k
 ·subst e
  rw[if_pos rfl]
  exact jR hd' (List.mem_map.mpr ⟨_,hb,if_pos rfl⟩)
 ·rw[if_neg e]
  exact jR hd' (List.mem_map.mpr ⟨_,hb,if_neg e⟩)
section
variable {σ:aF} {L:HL} {M:HM}
theorem aI.setAbL (q:aI L M σ) {k:Nat} {a:Addr} {l:List Int} (hd:(M.above.map (·.1)).Nodup) (hm:((k:Int),a,l)∈M.above) (x:List Int):
  aI L (M.setAb (M.above.map λ p=>if p.1=(k:Int) then (p.1,a,x) else p)) (σ.put a (.u 2 k,.list (aS x))):=by
 have ha:=q.abv k a l hm
 refine ⟨λ i t b bo hi e=>?_,λ i b l' e=>aF.put_tag _ ha (q.lot i b l' e) (dK rfl),λ j b l' e=>?_⟩
 ·have ht:=cW e
  dsimp only at ht
  subst ht
  have h17:eF (M.above.map λ p=>if p.1=(k:Int) then (p.1,a,x) else p)=eF M.above:=by
   unfold eF
   rw[List.map_map]
   refine List.map_congr_left λ p hp=>?_
   show ((if p.1=(k:Int) then (p.1,a,x) else p).1,AV.ref (if p.1=(k:Int) then (p.1,a,x) else p).2.1)=(p.1,AV.ref p.2.1)
   by_cases e:p.1=(k:Int)
   ·rw[if_pos e]
    have h1:=fK hd hm
    have h2:=fK (k:=p.1) (v:=p.2) hd hp
    rw[e,h1] at h2
    rw[←Option.some.inj h2]
   ·rw[if_neg e]
  refine aF.put_tag _ ha (q.fix i _ b bo hi ?_) (dK rfl)
  have hf:eA L (M.setAb (M.above.map λ p=>if p.1=(k:Int) then (p.1,a,x) else p))=(eA L M).set 17 (.t 17,L 17,.idict (eF (M.above.map λ p=>if p.1=(k:Int) then (p.1,a,x) else p))):=rfl
  rw[hf,h17] at e
  have hs:(eA L M).set 17 (.t 17,L 17,.idict (eF M.above))=eA L M:=rfl
  rw[hs] at e
  exact e
 ·obtain ⟨p,hp,e2⟩:=List.mem_map.mp e
  by_cases e3:p.1=(k:Int)
  ·rw[if_pos e3] at e2
   simp only[Prod.mk.injEq] at e2
   obtain ⟨e4,rfl,rfl⟩:=e2
   obtain rfl:j=k:=by exact Iv e3 e4
   exact aF.put_same ..
  ·rw[if_neg e3] at e2
   subst e2
   refine aF.put_tag _ ha (q.abv j b l' hp) (λ z=>?_)
   cases z;exact e3 rfl
end
theorem nP (N:Nat):gE (N+1)=gE N++[(N:Int)]:=by unfold gE;rw[List.range_succ,gK];rfl
theorem mI {N:Nat} {k:Int}:k∈gE N↔0≤k∧k<N:=by
 unfold gE aQ
 rw[List.mem_map]
 constructor
 ·rintro ⟨x,hx,rfl⟩
  have:=List.mem_range.mp hx
  exact xX this
 ·rintro ⟨h1,h2⟩
  obtain ⟨n,rfl⟩:=Int.eq_ofNat_of_zero_le h1
  exact ⟨n,List.mem_range.mpr (by exact Fk h2),rfl⟩
theorem yL {l:List Int} {x:Int} {k:Nat} (h:k<l.length):(l++[x]).getD k 0=l.getD k 0:=by
 rw[List.getD_eq_getElem?_getD,List.getD_eq_getElem?_getD,List.getElem?_append_left h]
section
variable {c:Cx} {σ:aF} {Φ:AV→aF→Prop} {L:HL} {M:HM} {N:Nat}
theorem Sgl.next (g:Sgl M N) {op:Str} {ks:List Int} {d:Int} {D:Addr} {ab':Co} (hN:N≤39) (hkl:ks.length≤3) (hks:∀k∈ks,0≤k∧k<N) (hno:∀i:Nat,M.nodes[i]?≠some (op,ks)) {M4:HM}
  (h4:M4=((((M.taken op ks (1+(ks.map λ k=>M.weights.getD k.toNat 0).sum) d).setUp (M.up++[(N:Int)])).setLots (M.lots++[(D,[(N:Int)])])).setAb ab'))
  (hk:ab'.map (·.1)=gE (N+1)) (ht:tot ab'≤40) (p1:∀k,∀x∈dS M.above k,x∈dS ab' k) (p2:∀k∈ks,(N:Int)∈dS ab' k) (p3:∀k,∀x∈dS ab' k,x∈dS M.above k∨x=N):
  Sgl0 M4 (N+1)∧M4.keyAt N=cR (op,ks)∧fM M4.known (cR (op,ks))=none∧Sgl (M4.setKn (M4.known++[(cR (op,ks),(N:Int))])) (N+1):=by
 have hnl:=g.nodes
 have kids:∀(i:Nat) n,(M.nodes++[(op,ks)])[i]? =some n→n.2.length≤3∧∀k∈n.2,0≤k∧k<i:=λ i n h=>by
  rw[List.getElem?_append] at h
  split at h
  ·exact g.kids i n h
  ·rename_i h1
   have h2:i=N:=by
    have:=(List.getElem?_eq_some_iff.mp h).1
    rw[List.length_singleton] at this;exact I6 hnl h1 this
   subst h2
   rw[hnl,Nat.sub_self] at h
   cases h
   exact ⟨hkl,hks⟩
 have s0:Sgl0 M4 (N+1):=by
  subst h4
  refine {
   few:=by exact Nat.lt_succ_of_le ‹_›
   up:=by show M.up++[(N:Int)]=_;rw[g.up,nP]
   nodes:=by show (M.nodes++[(op,ks)]).length=_;rw[List.length_append,hnl];rfl
   lots:=by show (M.lots++[(D,[(N:Int)])]).length=_;rw[List.length_append,g.lots];rfl
   lot:=λ i hi=>?_
   mg:=g.mg,ed:=g.ed,fo:=g.fo,wa:=g.wa
   kids:=kids
   keys:=hk
   tot:=ht
   kl:=Nat.le_succ_of_le g.kl}
  show ((M.lots++[(D,[(N:Int)])]).getD i (0,[])).2=_
  rw[List.getD_eq_getElem?_getD,List.getElem?_append]
  by_cases e:i<N
  ·rw[if_pos (by rw[g.lots];exact e),←g.lot i e]
   unfold HM.lot
   rw[List.getD_eq_getElem?_getD]
  ·obtain rfl:i=N:=by exact Fi hi e
   rw[if_neg (by rw[g.lots];exact Vd),g.lots,Nat.sub_self];rfl
 have hN4:M4.nodes[N]? =some (op,ks):=by
  subst h4
  show (M.nodes++[(op,ks)])[N]? =_
  rw[List.getElem?_append_right (by exact Nat.le_of_eq ‹_›),hnl,Nat.sub_self];rfl
 have e1:M4.known=M.known:=by rw[h4];rfl
 have e2:M4.nodes=M.nodes++[(op,ks)]:=by rw[h4];rfl
 have e3:M4.weights=M.weights++[1+(ks.map λ k=>M.weights.getD k.toNat 0).sum]:=by rw[h4];rfl
 have e4:M4.depths=M.depths++[d]:=by rw[h4];rfl
 have e5:∀k,(M4.ab k).2=dS ab' k:=λ k=>by rw[h4];rfl
 have hkn:fM M.known (cR (op,ks))=none:=by
  cases e:fM M.known (cR (op,ks)) with
  | none=>rfl
  | some m=>
   obtain ⟨i,n,_,h1,h2⟩:=g.k2 _ _ (jI e)
   obtain ⟨a,b⟩:=n
   unfold cR at h2
   rw[List.cons.injEq] at h2
   have ha:op=a:=bZ.s.inj h2.1
   have hb:ks=b:=kE h2.2
   subst ha hb
   exact absurd h1 (hno i)
 clear h4
 refine ⟨s0,s0.key hN4,by rw[e1];exact hkn,?_⟩
 have old:∀{i:Nat} {n},M4.nodes[i]? =some n→(i<N∧M.nodes[i]? =some n)∨(i=N∧n=(op,ks)):=λ {i n} h=>by
  rw[e2,List.getElem?_append] at h
  split at h
  ·exact .inl ⟨by exact Nat.lt_of_lt_of_eq ‹_› ‹_›,h⟩
  ·have h3:=(List.getElem?_eq_some_iff.mp h).1
   rw[List.length_singleton] at h3
   have h2:i=N:=by exact I6 hnl ‹_› h3
   subst h2
   rw[hnl,Nat.sub_self] at h
   cases h
   exact .inr ⟨rfl,rfl⟩
 exact {
  few:=s0.few,up:=s0.up,nodes:=s0.nodes,lots:=s0.lots,lot:=s0.lot,mg:=s0.mg,ed:=s0.ed,fo:=s0.fo,wa:=s0.wa,kids:=s0.kids,keys:=s0.keys,tot:=s0.tot
  kl:=by show (M4.known++_).length≤_;rw[List.length_append,List.length_singleton,e1];exact Nat.succ_le_succ g.kl
  k1:=λ i n h=>by
   show fM (M4.known++_) _=_
   rw[e1]
   rcases old h with ⟨_,h⟩ | ⟨rfl,rfl⟩
   ·exact rB (g.k1 i n h)
   ·exact rA hkn
  k2:=λ k m h=>by
   have h':(k,m)∈M4.known++[(cR (op,ks),(N:Int))]:=h
   rcases List.mem_append.mp h' with h' | h'
   ·rw[e1] at h'
    obtain ⟨i,n,h1,h2,h3⟩:=g.k2 k m h'
    refine ⟨i,n,h1,?_,h3⟩
    show M4.nodes[i]? =_
    rw[e2,List.getElem?_append_left (List.getElem?_eq_some_iff.mp h2).1];exact h2
   ·rw[List.mem_singleton] at h'
    cases h'
    exact ⟨N,_,rfl,hN4,rfl⟩
  us:=λ i n h k hk=>by
   show (i:Int)∈(M4.ab k).2
   rw[e5]
   rcases old h with ⟨_,h⟩ | ⟨rfl,rfl⟩
   ·exact p1 k _ (g.us i n h k hk)
   ·exact p2 k hk
  ur:=λ i hi x hx=>by
   have hx':x∈(M4.ab i).2:=hx
   rw[e5] at hx'
   rcases p3 i x hx' with h | rfl
   ·by_cases e:i<N
    ·obtain ⟨n,h1,h2⟩:=g.ur i e x h
     exact ⟨n,Nat.lt_succ_of_lt h1,h2⟩
    ·rw[iC (by rw[g.keys,mI];exact R0 e)] at h;cases h
   ·exact ⟨N,Nat.lt_succ_self _,rfl⟩
  wl:=by show M4.weights.length=_;rw[e3,List.length_append,g.wl];rfl
  dl:=by show M4.depths.length=_;rw[e4,List.length_append,g.dl];rfl
  ww:=λ i n h=>by
   show M4.weights[i]? =some (1+(n.2.map λ k=>M4.weights.getD k.toNat 0).sum)
   rw[e3]
   have gd:∀k:Int,0≤k→k<N→(M.weights++[1+(ks.map λ k=>M.weights.getD k.toNat 0).sum]).getD k.toNat 0=M.weights.getD k.toNat 0:=λ k h0 h1=>yL (by rw[g.wl];exact Ix h0 h1)
   rcases old h with ⟨hi,h⟩ | ⟨rfl,rfl⟩
   ·rw[List.getElem?_append_left (by rw[g.wl];exact hi),g.ww i n h,List.map_congr_left λ k hk=>?_]
    obtain ⟨k0,k1⟩:=(g.kids i n h).2 k hk
    exact (gd k k0 (by exact Rn hi k1)).symm
   ·rw[List.getElem?_append_right (by rw[g.wl];exact Nat.le_refl _),g.wl,Nat.sub_self,List.map_congr_left λ k hk=>gd k (hks k hk).1 (hks k hk).2];rfl}
end
inductive Gx (L:HL) (M3:HM) (ab:Co) (N:Nat) (σ:aF) (ys:List AV) (i:Nat) (loc:aV) (σ':aF):Prop
 | mk (c1:loc z23=some (.ref (L 1))) (c2:loc z92=some (.int (N:Int))) (ab':Co) (c3:fQ σ σ') (c4:aI L (M3.setAb ab') σ') (c5:ab'.map (·.1)=gE (N+1)) (c6:tot ab'≤tot ab+i) (c7:(∀k,∀x∈dS ab k,x∈dS ab' k)) (c8:(∀k:Int,AV.int k∈ys.take i→(N:Int)∈dS ab' k)) (c9:∀k,∀x∈dS ab' k,x∈dS ab k∨x=N):Gx L M3 ab N σ ys i loc σ'
section
variable {c:Cx} {σ:aF} {Φ:AV→aF→Prop} {L:HL} {M:HM} {N:Nat}
theorem Lf (hc:5≤c.n) (q:aI L M σ) (g:Sgl M N) (hN:N≤39) (hwb:∀x∈M.weights,0≤x∧x≤1000000) {op:Str} {ks:List Int} (hop:lE op=true)
  (hoz:op.cps.toList.length≤100000) (hkl:ks.length≤3) (hks:∀k∈ks,0≤k∧k<N) (htot:tot M.above+ks.length≤40)
  (hold:∀i:Nat,i<N→M.nodes[i]? =some (op,ks)→Φ (.int i) σ)
  (hnew:∀σ' M',(∀i:Nat,M.nodes[i]?≠some (op,ks))→fQ σ σ'→aI L M' σ'→Sgl M' (N+1)→M'.nodes=M.nodes++[(op,ks)]→M'.weights=M.weights++[1+(ks.map λ k=>M.weights.getD k.toNat 0).sum]→
   tot M'.above≤tot M.above+ks.length→Φ (.int N) σ'):
  gG c σ (.ref 401) [.ref (L 1),.str op,.tup (aS ks)] Φ:=by
 have hnl:=g.nodes
 have hul:M.up.length=N:=by rw[g.up,dI]
 refine (Be c.w).call (c1 hc) rfl λ K=>aE (aJ (bG (q.at 3) (q.at 4) rfl (gX (vV c.w) 2 rfl) (jT q (dH (a:=K+1) rfl (.inl rfl) rfl) rfl rfl rfl) (aA (aC rfl rfl (aA (aC rfl rfl (aB ?_)))))))
 have slf:∀(loc:aV) (σ:aF) (p:Pos),loc z23=some (.ref (L 1))→∀Ψ:AV→aF→Prop,Ψ (.ref (L 1)) σ→WE (c.deep (bB fZ K 401)) (bB fZ K 401) loc σ (.Name z23 p) Ψ:=λ loc σ p h=>dH (a:=K+1) h (.inl rfl) rfl
 have nocell:∀(x:Str),(x==z23)=false→∀b,(x,b)∉(bB fZ K 401).cells:=λ x hx b hb=>by
  have:=List.mem_singleton.mp hb
  cases this
  simp at hx
 refine He (c:=c.deep _) (cn hc) q (by exact B4 hN hnl) (by rw[g.wl,hnl]) (by rw[g.dl,hnl]) hwb hop hoz hkl (λ k hk=>by rw[hnl];exact hks k hk) (λ i hi=>?_) (λ σ1 d hno E1 q1=>?_)
 ·have hi':i<N:=hnl▸(List.getElem?_eq_some_iff.mp hi).1
  refine eJ rfl ?_ (nocell _ rfl)
  refine aE (eG (aT (aC rfl rfl (bG (q.at 5) (q.at 6) rfl (gX (eE c.w) 1 rfl) (jT q (slf _ _ _ rfl) rfl rfl rfl) (aB ?_)))))
  refine xI (c:=c.deep _) (cn hc) q (by exact B4 hN hul) (uM ⟨_,rfl,?_⟩)
  rw[hul,decide_eq_true (by exact Int.ofNat_le.mpr ‹_›),if_pos rfl]
  exact aE (aR (aC rfl rfl ⟨_,rfl,hold i hi' hi⟩))
 rw[hnl]
 refine eJ rfl ?_ (nocell _ rfl)
 refine aE (eG (aT (aC rfl rfl (bG (q1.at 5) (q1.at 6) rfl (gX (eE c.w) 1 rfl) (jT q1 (slf _ _ _ rfl) rfl rfl rfl) (aB ?_)))))
 refine xI (c:=c.deep _) (cn hc) q1 (show M.up.length≤1000 by exact B4 hN hul) (uM ⟨_,rfl,?_⟩)
 rw[show (M.taken op ks (1+(ks.map λ k=>M.weights.getD k.toNat 0).sum) d).up.length=N from hul,decide_eq_false (by exact Vg),if_neg (by simp)]
 refine aP (aE (bA (bG (q1.at 5) (q1.at 6) rfl (gX (eE c.w) 2 rfl) (jT q1 (slf _ _ _ rfl) rfl rfl rfl) (aB ?_))))
 refine Hq (c:=c.deep _) (cn hc) q1 (show M.up.length≤1000 by exact B4 hN hul) (show M.lots.length=M.up.length by rw[g.lots,hul]) λ σ2 D e2 q2=>?_
 rw[show (M.taken op ks (1+(ks.map λ k=>M.weights.getD k.toNat 0).sum) d).up.length=N from hul] at q2
 obtain ⟨M3,hM3⟩:∃M3,M3=(((M.taken op ks (1+(ks.map λ k=>M.weights.getD k.toNat 0).sum) d).setUp (M.up++[(N:Int)])).setLots (M.lots++[(D,[(N:Int)])])):=⟨_,rfl⟩
 have q2':aI L M3 σ2:=by rw[hM3];exact q2
 have ha3:M3.above=M.above:=by rw[hM3];rfl
 have hu3:M3.up=gE (N+1):=by rw[hM3,nP,←g.up];rfl
 have al:M.above.length=N:=by have h1:=congrArg List.length g.keys;rwa [List.length_map,dI] at h1
 refine aE (aJ (bV (.u 2 N) (aB ⟨by simp,λ D2 hD2=>?_⟩)))
 have q3:=q2'.new hD2 (.u 2 N,.list (aS []))
 have E3:=(E1.trans e2).put (a:=D2) (y:=(.u 2 N,.list (aS []))) (.inl hD2)
 have hnk:(eF M.above).any (λ e=>decide (e.1=(N:Int)))=false:=List.any_eq_false.mpr λ p hp=>by
  obtain ⟨r,hr,rfl⟩:=List.mem_map.mp hp
  rw[decide_eq_true_eq]
  intro e
  have:(N:Int)∈M.above.map (·.1):=e▸List.mem_map.mpr ⟨r,hr,rfl⟩
  rw[g.keys,mI] at this
  exact BM this
 have eput:pE (eF M3.above) (N:Int) (.ref D2)=eF (M.above++[((N:Int),D2,[])]):=by
  rw[ha3]
  unfold pE
  rw[hnk,if_neg (by simp)]
  unfold eF
  rw[List.map_append];rfl
 refine gU (kU q3 (slf _ _ _ rfl) rfl rfl rfl (aC rfl rfl (eS (q3.at 17) (Nat.le_trans (Nat.le_of_eq (List.length_map ..)) (by rw[ha3,al];exact Z2 hN)) eput ?_)))
 have q4:=q3.setAb (M.above++[((N:Int),D2,[])]) λ k a l hm=>by
  rcases List.mem_append.mp hm with hm | hm
  ·exact q3.abv k a l (by rw[ha3];exact hm)
  ·rw[List.mem_singleton] at hm
   simp only[Prod.mk.injEq] at hm
   obtain ⟨e1,rfl,rfl⟩:=hm
   obtain rfl:k=N:=by exact Int.ofNat.inj ‹_›
   exact aF.put_same ..
 have E4:=E3.put (y:=(.t 17,.idict (eF (M.above++[((N:Int),D2,[])])))) (.inr ⟨_,_,rfl,q3.at 17⟩)
 have keys4:(M.above++[((N:Int),D2,([]:List Int))]).map (·.1)=gE (N+1):=by rw[List.map_append,g.keys,nP];rfl
 have nd4:((M.above++[((N:Int),D2,([]:List Int))]).map (·.1)).Nodup:=by rw[keys4];exact iO _
 have ab4:∀k,dS (M.above++[((N:Int),D2,[])]) k=dS M.above k:=λ k=>by
  by_cases hk:k∈M.above.map (·.1)
  ·obtain ⟨a,ha⟩:=wS hk (by rw[g.keys];exact iO N)
   exact jR nd4 (List.mem_append_left _ ha)
  ·rw[iC hk]
   by_cases e:k=N
   ·subst e;exact jR nd4 (List.mem_append_right _ List.mem_cons_self)
   ·exact iC (by rw[List.map_append,List.mem_append,not_or];exact ⟨hk,by simpa using e⟩)
 have tot4:tot (M.above++[((N:Int),D2,[])])=tot M.above:=by
  unfold tot
  rw[List.map_append,List.sum_append];rfl
 refine aE (lT (bP (iB c.w) rfl aK (aA (bP (cE c.w 8 rfl) rfl bN (aA (bW (cl:=[(z23,K+1)]) (bY.of (by kernel_rfl) rfl (λ p hp=>hp) (List.pairwise_singleton _ _)) (.t 0) (aC rfl rfl ?_)))))))
 refine ⟨_,_,dQ rfl,by rw[aN];exact vW hkl,λ j acc σ'=>σ'=_∧acc=aS (ks.take j),⟨⟨rfl,rfl⟩,?_⟩,?_⟩
 ·rintro C j y acc σ' hy ⟨rfl,rfl⟩
  rw[aS,List.getElem?_map] at hy
  obtain ⟨k,hk1,rfl⟩:=Option.map_eq_some_iff.mp hy
  obtain ⟨k0,k1⟩:=hks k (List.mem_of_getElem? hk1)
  obtain ⟨m,rfl⟩:=Int.eq_ofNat_of_zero_le k0
  refine bG (q4.at 1) (q4.at 2) rfl (gX (cS c.w) 0 rfl) (dH (a:=K+1) rfl (.inl rfl) rfl) (aA (aC (if_pos rfl) rfl (aB ?_)))
  have hu4:(M3.setAb (M.above++[((N:Int),D2,[])])).up=gE (N+1):=hu3
  refine fY (c:=c.deep _) (cn hc) q4 (by rw[hu4];exact pY _) (by rw[hu4,dI];exact Z4 hN) (by rw[hu4,dI];exact Jy k1) λ _ _=>⟨rfl,?_⟩
  rw[hu4,dY (by exact Jy k1),List.take_add_one,hk1,←dG];rfl
 rintro acc σ' D5 ⟨rfl,rfl⟩ hl5 hD5
 rw[aN,List.take_length]
 have hall:∀x∈aS ks,Dr true x:=λ x hx=>let ⟨n,_,e⟩:=List.mem_map.mp hx;⟨n,e.symm⟩
 have hl:(aS ks).length<64:=by rw[aN];exact Z6 hkl
 refine aB (Af (.t 0) true (aF.put_same ..) hall hl λ S hS=>aB (kX (.t 0) (aF.put_same ..) (λ x hx=>⟨hall x hx,nofun⟩) hl λ D6 ys hD6 hm6 hyl=>?_))
 rw[aN] at hyl
 have q6:=((q4.new hD5 (.t 0,.list (aS ks))).new hS (.t 0,zT _ true (aS ks))).new hD6 (.t 0,.list ys)
 have E6:=((E4.put (a:=D5) (y:=(.t 0,.list (aS ks))) (.inl hD5)).put (a:=S) (y:=(.t 0,zT (c.deep (bB fZ K 401)) true (aS ks))) (.inl hS)).put (a:=D6) (y:=(.t 0,.list ys)) (.inl hD6)
 refine ⟨_,_,eU rfl (aF.put_same ..),Gx L M3 M.above N σ ys,⟨rfl,rfl,M.above++[((N:Int),D2,[])],E6.del (aF.put_same ..) rfl,q6.del (aF.put_same ..) (λ i hi e=>by cases e;exact hi rfl) nofun,keys4,by exact Nat.le_of_eq ‹_›,λ k x hx=>by rw[ab4];exact hx,nofun,λ k x hx=>.inl (by rw[ab4] at hx;exact hx)⟩,?_,?_⟩
 ·rintro i y loc σ' hy ⟨h1,h2,ab',E',q',hk',ht',p1,p2,p3⟩
  obtain ⟨k,hk,rfl⟩:=List.mem_map.mp ((hm6 y).mp (List.mem_of_getElem? hy))
  obtain ⟨k0,k1⟩:=hks k hk
  obtain ⟨m,rfl⟩:=Int.eq_ofNat_of_zero_le k0
  have nd':(ab'.map (·.1)).Nodup:=by rw[hk'];exact iO _
  have hmk:(m:Int)∈ab'.map (·.1):=by rw[hk',mI];exact U1 k1
  obtain ⟨a,hma⟩:=wS hmk nd'
  have hi:i<ys.length:=(List.getElem?_eq_some_iff.mp hy).1
  refine eJ rfl ?_ (nocell _ rfl)
  have al':ab'.length=N+1:=by have h1:=congrArg List.length hk';rwa [List.length_map,dI] at h1
  have ik:gY (eF ab') (m:Int)=some (.ref a):=by unfold eF;rw[mN (λ p:Addr×List Int=>AV.ref p.1),fK nd' hma];rfl
  have hl2:(dS ab' m).length≤40:=by
   have:(dS ab' m).length≤tot ab':=kQ (List.mem_map.mpr ⟨_,hma,rfl⟩)
   exact Nn htot hyl ht' hi this
  refine aE (bA (cO (cN (q'.abv m a _ hma)) (λ Ψ hΨ=>bF (kU q' (slf _ _ _ h1) rfl rfl rfl (aC rfl rfl (fN (q'.at 17) ik hΨ)))) (aA (aC h2 rfl (aB (bR (q'.abv m a _ hma) (by rw[aN];exact Md hl2) ?_))))))
  rw[show aS (dS ab' m)++[AV.int (N:Int)]=aS (dS ab' m++[(N:Int)]) by rw[←dG];rfl]
  have q'':=q'.setAbL nd' hma (dS ab' m++[(N:Int)])
  have tp:=vN (D:=a) (y:=dS ab' m++[(N:Int)]) nd' hma
  rw[List.length_append,List.length_singleton] at tp
  dsimp only at tp
  have ap:∀j:Int,j∈ab'.map (·.1)→dS (ab'.map λ p=>if p.1=(m:Int) then (p.1,a,dS ab' m++[(N:Int)]) else p) j=if j=m then dS ab' m++[(N:Int)] else dS ab' j:=λ j hj=>Gl nd' hmk hj
  have keys':(ab'.map λ p=>if p.1=(m:Int) then (p.1,a,dS ab' m++[(N:Int)]) else p).map (·.1)=ab'.map (·.1):=rD ab'
  have nok:∀j:Int,j∉ab'.map (·.1)→dS (ab'.map λ p=>if p.1=(m:Int) then (p.1,a,dS ab' m++[(N:Int)]) else p) j=dS ab' j:=λ j hj=>by rw[iC hj,iC (by rw[keys'];exact hj)]
  refine aP ⟨h1,h2,(ab'.map λ p:Int×Addr×List Int=>if p.1=(m:Int) then (p.1,a,dS ab' m++[(N:Int)]) else p),E'.put (.inr ⟨_,_,rfl,q'.abv m a _ hma⟩),q'',keys'.trans hk',by exact Nq ht' tp,λ j x hx=>?_,λ j hj=>?_,λ j x hx=>?_⟩
  ·by_cases hj:j∈ab'.map (·.1)
   ·rw[ap j hj]
    split
    ·rename_i e;subst e;exact List.mem_append_left _ (p1 _ x hx)
    ·exact p1 j x hx
   ·rw[nok j hj];exact p1 j x hx
  ·rw[List.take_add_one,hy,List.mem_append] at hj
   have hjk:j∈ab'.map (·.1):=by
    have:AV.int j∈aS ks:=(hm6 _).mp (by
     rcases hj with hj | hj
     ·exact List.mem_of_mem_take hj
     ·rw[List.mem_singleton.mp hj];exact List.mem_of_getElem? hy)
    obtain ⟨k',hk2,e⟩:=List.mem_map.mp this
    cases e
    obtain ⟨k3,k4⟩:=hks _ hk2
    rw[hk',mI];exact M9 k3 k4
   rw[ap j hjk]
   split
   ·exact List.mem_append_right _ List.mem_cons_self
   ·rename_i e
    rcases hj with hj | hj
    ·exact p2 j hj
    ·have:=List.mem_singleton.mp hj
     cases this;exact absurd rfl e
  ·by_cases hj:j∈ab'.map (·.1)
   ·rw[ap j hj] at hx
    split at hx
    ·rename_i e
     subst e
     rcases List.mem_append.mp hx with hx | hx
     ·exact p3 _ x hx
     ·exact .inr (List.mem_singleton.mp hx)
    ·exact p3 j x hx
   ·rw[nok j hj] at hx;exact p3 j x hx
 rintro loc σ' ⟨h1,h2,ab',E',q',hk',ht',p1,p2,p3⟩
 rw[List.take_length] at p2
 obtain ⟨s0,gO,hknone,sg⟩:=g.next (d:=d) (D:=D) (ab':=ab') hN hkl hks hno (M4:=M3.setAb ab') (by rw[hM3]) hk' (by exact Oo htot hyl ht') p1 (λ k hk=>p2 k ((hm6 _).mpr (List.mem_map.mpr ⟨k,hk,rfl⟩))) p3
 have o4:=s0.ok
 refine aE (bA (bG (q'.at 1) (q'.at 2) rfl (gX (cS c.w) 4 rfl) (slf _ _ _ h1) (aA (aC h2 rfl (aB ?_)))))
 have ul4:(M3.setAb ab').up.length=N+1:=by rw[s0.up,dI]
 refine B7 (c:=c.deep _) (cn hc) q' o4 (by rw[s0.ed];decide) (by rw[ul4];exact Nat.lt_succ_self _) (λ k m hm=>?_) (λ σ'' _ e'' q''=>?_) (λ _ j hj _ _ _ _=>?_) (λ _ _ _ _ j _ hj _ _ _ _ _ _ _=>?_)
 ·obtain ⟨i,n,h3,h4,_⟩:=g.k2 k m (show (k,m)∈M.known by rw[show M.known=(M3.setAb ab').known by rw[hM3];rfl];exact hm)
  exact ⟨i,h3,by rw[ul4];have:=(List.getElem?_eq_some_iff.mp h4).1;exact P1 hnl this⟩
 ·rw[gO] at q''
  exact aE (aR (aC h2 rfl ⟨_,rfl,hnew σ'' _ hno (E'.trans e'') q'' sg (by rw[hM3];rfl) (by rw[hM3];rfl) (by show tot ab'≤_;exact N5 hyl ht')⟩))
 ·rw[gO,hknone] at hj;cases hj
 ·rw[gO,hknone] at hj;cases hj
end
noncomputable def bD (p:Tg→Bool) (σ σ':aF):Prop:=∀t a ao,p t=false→σ a=some (t,ao)→σ' a=some (t,ao)
section
variable {p:Tg→Bool} {σ σ' σ'':aF} {F:G2}
theorem bD.refl (σ:aF):bD p σ σ:=λ _ _ _ _ h=>h
theorem bD.trans (x:bD p σ σ') (y:bD p σ' σ''):bD p σ σ'':=λ t b o h e=>y t b o h (x t b o h e)
theorem bD.of (x:fQ σ σ') (h:∀t,p t=false→eO t=false):bD p σ σ':=λ t b o hp e=>x t b o (h t hp) e
theorem bD.put (x:bD p σ σ') {a:Addr} {y:Tg×AO} (ha:σ' a=none∨∃t o,p t=true∧σ' a=some (t,o)):bD p σ (σ'.put a y):=λ t b o h e=>by
 have hb:=x t b o h e
 rw[aF.put_ne,hb]
 rintro rfl
 rcases ha with ha | ⟨t',o',h',ha⟩
 ·rw[ha] at hb;cases hb
 ·rw[ha] at hb;cases hb
  rw[h] at h';cases h'
theorem bD.del (x:bD p σ σ') {a:Addr} {t:Tg} {o:AO} (ha:σ' a=some (t,o)) (ht:p t=true):bD p σ (σ'.del a):=λ t' b o' h e=>
 aF.del_tag ha (x t' b o' h e) (λ e2=>by subst e2;rw[h] at ht;cases ht)
theorem cL.extP {k:Nat} {L:HL} {a:KA} {z:Bool} {V:Addr} {l:Dt} (q:cL k L a z V l σ) (e:bD p σ σ') (h:∀i,3≤i→i≤7→p (.u i k)=false):cL k L a z V l σ':=
 ⟨e _ _ _ (h 3 (by decide) (by decide)) q.x,e _ _ _ (h 4 (by decide) (by decide)) q.d,e _ _ _ (h 5 (by decide) (by decide)) q.v,e _ _ _ (h 6 (by decide) (by decide)) q.an,e _ _ _ (h 7 (by decide) (by decide)) q.da⟩
theorem aI.putO {L:HL} {M:HM} (q:aI L M σ) {F:Addr} {t:Tg} {ao y:AO} (hF:σ F=some (t,ao)) (ht:eO t=false):aI L M (σ.put F (t,y)) where
 fix:=λ n t' b bo hn e=>by
  have h:=cW e
  dsimp only at h
  subst h
  refine aF.put_tag _ hF (q.fix n _ b bo hn e) (λ x=>?_)
  subst x
  have hl:=(List.getElem?_eq_some_iff.mp e).1
  have:(eA L M).length=19:=rfl
  unfold eO at ht
  simp at ht
  exact Ty hl this ht
 lot:=λ n b l e=>aF.put_tag _ hF (q.lot n b l e) (λ x=>by subst x;cases ht)
 abv:=λ n b l e=>aF.put_tag _ hF (q.abv n b l e) (λ x=>by subst x;cases ht)
end
section
variable {c:Cx} {σ:aF} {Φ:AV→aF→Prop}
theorem gJ (hc:1≤c.n) {Ch:Addr} {t:Tg} {b m:Nat} {rest:List Int} (hC:σ Ch=some (t,.list (aS ((b:Int)::rest)))) (hb:b≤1000) (hr:rest.length≤1000) (hm:0<m)
  (h:∀d:Nat,d<m→Φ (.int d) (σ.put Ch (t,.list (aS (((b+1:Nat):Int)::rest))))):gG c σ (.ref 509) [.ref Ch,.int m] Φ:=by
 refine (Bd c.w).call hc rfl λ K=>aE (aJ (bF (aC rfl rfl (aY (bC (i:=0) (x:=.int (b:Int)) hC rfl (by decide) (bX rfl rfl ?_))))))
 have hm0:(m:Int)≠0:=by exact BN hm
 have fin:∀x:Int,∃d:Nat,d<m∧x.fmod m=d:=λ x=>by
  have h1:=Int.fmod_nonneg_of_pos x (show (0:Int)<m by exact Int.ofNat_le.mpr ‹_›)
  have h2:=Int.fmod_lt_of_pos x (show (0:Int)<m by exact Int.ofNat_le.mpr ‹_›)
  exact ⟨(x.fmod m).toNat,by exact Ix h1 h2,by exact BY h1⟩
 refine aE (aJ (aU (aC rfl rfl (aY (eX (gU (aC rfl rfl (aY (uI (i:=0) hC (by rw[aN];simp) (by rw[aN];simp;exact Mi hr) ?_)))))))))
 have e1:(aS ((b:Int)::rest)).set 0 (.int ((b:Int)+1))=aS (((b+1:Nat):Int)::rest):=rfl
 rw[e1]
 have hC':=aF.put_same σ Ch (t,.list (aS (((b+1:Nat):Int)::rest)))
 have ll:(aS (((b+1:Nat):Int)::rest)).length=rest.length+1:=by rw[aN];rfl
 refine aE (eG (aT (aU (aC rfl rfl (aY (eX (bP (cZ c.w) rfl aK (aA (aC rfl rfl (aB (bK hC' (by exact S8 hr ll) (uM ⟨_,rfl,?_⟩))))))))))))
 rw[ll]
 by_cases hl:b+1<rest.length+1
 ·rw[decide_eq_true (by exact Int.ofNat_le.mpr ‹_›),if_pos rfl]
  obtain ⟨x,hx⟩:∃x,rest[b]? =some x:=⟨_,List.getElem?_eq_getElem (by exact Nat.le_of_lt_succ ‹_›)⟩
  obtain ⟨d,hd,e⟩:=fin x
  refine aE (aR (aU (bF (aC rfl rfl (aU (aC rfl rfl (aY (eX (bC (i:=b+1) (x:=.int x) hC' (by rw[aS,List.map_cons,List.getElem?_cons_succ,List.getElem?_map,hx];rfl) (by exact AG hb) (aC rfl rfl (Aw ⟨_,rfl,?_⟩ hm0)))))))))))
  rw[e];exact h d hd
 ·rw[decide_eq_false (by exact R5 hl),if_neg (by simp)]
  obtain ⟨d,hd,e⟩:=fin (11*(b:Int)+((b:Int)*(b:Int)).fdiv 2+4)
  refine aP (aE (aR (aU (aU (aU (aU (aY (aC rfl rfl (Eo (aU (aU (aC rfl rfl (aC rfl rfl (Eo (aY (Kw ?_ (by decide) rfl)) (by exact Int.natCast_nonneg _) (by exact AI hb)))))) (by decide) (by decide))))))))))
  refine eX (aY (eX (aC rfl rfl (Aw ⟨_,rfl,?_⟩ hm0))))
  rw[e];exact h d hd
variable {L:HL} {M:HM} {N:Nat}
noncomputable def L5 (t:Tg):Bool:=eO t||t== .t 20
noncomputable def bQ (ns:List (Str×List Int)):List AV:=ns.map λ n=>(cR n).av
theorem fL (hc:6≤c.n) (q:aI L M σ) (g:Sgl M N) (hN:N≤39) (hwb:∀x∈M.weights,0≤x∧x≤1000000) {R:Addr} (hR:σ R=some (.t 20,.list (bQ M.nodes))) {op:Str} {ks:List Int} (hop:lE op=true)
  (hoz:op.cps.toList.length≤100000) (hkl:ks.length≤3) (hks:∀k∈ks,0≤k∧k<N) (htot:tot M.above+ks.length≤40)
  (hold:∀i:Nat,i<N→M.nodes[i]? =some (op,ks)→Φ .none σ)
  (hnew:∀σ' M',(∀i:Nat,M.nodes[i]?≠some (op,ks))→bD L5 σ σ'→aI L M' σ'→Sgl M' (N+1)→M'.nodes=M.nodes++[(op,ks)]→M'.weights=M.weights++[1+(ks.map λ k=>M.weights.getD k.toNat 0).sum]→
   tot M'.above≤tot M.above+ks.length→σ' R=some (.t 20,.list (bQ M'.nodes))→Φ .none σ'):
  gG c σ (.ref 516) [.ref (L 1),.ref R,.str op,.tup (aS ks)] Φ:=by
 have hl:(bQ M.nodes).length=N:=by rw[bQ,List.length_map,g.nodes]
 refine (Bc c.w).call (c1 hc) rfl λ K=>aE (eG (aT ?_))
 refine bG (q.at 1) (q.at 2) rfl (gX (cS c.w) 10 rfl) (aM rfl rfl) (aA (aC rfl rfl (aA (aC rfl rfl (aB ?_)))))
 refine Lf (c:=c.deep _) (cn hc) q g hN hwb hop hoz hkl hks htot (λ i hi hn=>?_) (λ σ' M' hno E q' g' h1 h2 h3=>?_)
 ·refine bP (cZ c.w) rfl aK (aA (aC rfl rfl (aB (bK hR (by exact Fh hN hl) (qR ⟨_,rfl,?_⟩)))))
  rw[hl,show ((i:Int)==((N:Nat):Int))=false by simp only[beq_eq_false_iff_ne];exact xY hi,if_neg (by simp)]
  exact aP (aP ⟨_,rfl,hold i hi hn⟩)
 ·have hR':=E _ _ _ rfl hR
  refine bP (cZ c.w) rfl aK (aA (aC rfl rfl (aB (bK hR' (by exact Fh hN hl) (qR ⟨_,rfl,?_⟩)))))
  rw[hl,show (((N:Nat):Int)==((N:Nat):Int))=true by simp,if_pos rfl]
  refine aE (bA (cO (cN hR') (aM rfl rfl) (aA (aU (aZ (aA (aC rfl rfl (aB ⟨by simp,aC rfl rfl (pU (aB ?_) (by rw[aN];simp;exact K3 hkl))⟩))))))))
  refine bR hR' (by exact Fh hN hl) ?_
  have er:bQ M.nodes++[AV.tup ([AV.str op]++aS ks)]=bQ M'.nodes:=by
   rw[h1,bQ,bQ,List.map_append]
   show _=_++[(cR (op,ks)).av]
   rw[gI];rfl
  rw[er]
  refine aP (aP ⟨_,rfl,hnew _ M' hno ((bD.of E λ t ht=>(Bool.or_eq_false_iff.mp ht).1).put (.inr ⟨_,_,rfl,hR'⟩)) (q'.putO hR' rfl) g' h1 h2 h3 (aF.put_same ..)⟩)
end
section
variable {c:Cx} {σ:aF} {Φ:AV→aF→Prop} {L:HL} {M:HM} {z:Bool} {A dA:Addr}
theorem rE (hn:2≤c.n) (k:Nat) (q:aI L M σ) (hA:σ A=some (.u 6 k,.inst (zC z) dA)) (hdA:σ dA=some (.u 7 k,.ns []))
  (h:∀σ' a V,lW σ σ'→cL k L a z V [] σ'→Φ (.ref a.X) σ'):gG c σ (.ref 130) [.ref (L 1),.ref A] Φ:=by
 refine wY (.u 3 k) (.u 4 k) (Hn 3 rfl) (by exact Nat.le_of_lt ‹_›) λ vals X d hd hX=>?_
 have q0:=Mk.new (t:=.u 3 k) (t':=.u 4 k) (C:=130) hd hX (dK rfl)
 have ng:∀i,i≠4→(Tg.u i k != .u 4 k)=true:=λ i hi=>bne_iff_ne.mpr λ e=>by cases e;exact hi rfl
 refine (tP c.w).call (c:=c.make 130 vals) (cn hn) rfl λ K=>aE (aJ (aC rfl rfl ?_))
 refine cA (gL c.w) rfl q0.x q0.dd (Nat.le_of_ble_eq_true rfl) (aM rfl rfl) ?_
 have q1:=q0.set [(z46,.ref (L 1))]
 refine aE (aJ (aC rfl rfl ?_))
 refine cA (gL c.w) rfl q1.x q1.dd (Nat.le_of_ble_eq_true rfl) (aM rfl rfl) ?_
 have q2:=q1.set [(z46,.ref (L 1)),(z47,.ref A)]
 refine aE (aJ (iF (.u 5 k) λ V hV=>?_))
 have q3:=q2.add hV (.u 5 k,.idict []) (ng 5 (by decide))
 refine cA (gL c.w) rfl q3.x q3.dd (Nat.le_of_ble_eq_true rfl) (aM rfl rfl) ?_
 have q4:=q3.set [(z46,.ref (L 1)),(z47,.ref A),(z25,.ref V)]
 refine aE (aJ (iF (.u 8 k) λ T hT=>?_))
 have q5:=q4.add hT (.u 8 k,.idict []) (ng 8 (by decide))
 refine cA (gL c.w) rfl q5.x q5.dd (Nat.le_of_ble_eq_true rfl) (aM rfl rfl) ?_
 have q6:=q5.set [(z46,.ref (L 1)),(z47,.ref A),(z25,.ref V),(z60,.ref T)]
 refine aE (aJ (kU (q.more q6.old) (aM rfl rfl) rfl rfl rfl ?_))
 refine cA (gL c.w) rfl q6.x q6.dd (Nat.le_of_ble_eq_true rfl) (aM rfl rfl) ?_
 have q7:=q6.set (nN L ⟨X,d,A,dA,T⟩ V)
 refine aP ⟨.none,rfl,rfl,h _ ⟨X,d,A,dA,T⟩ V q7.old ⟨q7.x,q7.dd,q7.f.at 1 rfl,q7.old _ _ hA,q7.old _ _ hdA⟩⟩
end
noncomputable def hf (H:List Nat):Nat→Nat:=λ a=>H.getD a 0
structure Hm (ns:iT) (pr:List (Nat×Nat)) (H:List Nat):Prop where
 len:H.length=ns.length
 le:∀a,a<ns.length→hf H a≤a
 sd:∀e,Cn ns pr e→∀a,a<ns.length→e (hf H a)=e a
noncomputable def gO (ns:iT) (H:List Nat) (n:Nat):cH:=cR (qS ns n,aQ ((aL ns n).map (hf H)))
structure Dv (ns:iT) (pr:List (Nat×Nat)) (H:List Nat) (fst:List (cH×Int)) (du:List (Nat×Nat)) (i:Nat):Prop where
 done:∀n,n<i→∃f:Nat,fM fst (gO ns H n)=some (f:Int)∧(f,n)∈du
 src:∀k m,(k,m)∈fst→∃f:Nat,m=f∧f<ns.length∧k=gO ns H f
 prs:∀p∈pr,p∈du
 snd:∀p∈du,p.1<ns.length∧p.2<ns.length∧∀e,Cn ns pr e→e p.1=e p.2
 fl:fst.length≤i
 dl:du.length=pr.length+i
section
variable {ns:iT} {pr:List (Nat×Nat)} {H:List Nat}
theorem vZ {n:Nat} (h:n<H.length):H[n]? =some (hf H n):=by
 unfold hf
 rw[List.getD_eq_getElem?_getD,List.getElem?_eq_getElem h];rfl
theorem Hm.start:Hm ns pr (List.range ns.length) where
 len:=List.length_range
 le:=λ a ha=>by unfold hf;rw[List.getD_eq_getElem?_getD,List.getElem?_range ha];exact Nat.le_refl _
 sd:=λ e _ a ha=>by unfold hf;rw[List.getD_eq_getElem?_getD,List.getElem?_range ha];rfl
theorem F9 {f:Nat→Nat} {a:Nat} (h:a<H.length):hf (H.map f) a=f (hf H a):=by
 unfold hf
 rw[List.getD_eq_getElem?_getD,List.getD_eq_getElem?_getD,List.getElem?_map,List.getElem?_eq_getElem h];rfl
theorem Hm.repl (x:Hm ns pr H) {one other low high:Nat} (h1:one<ns.length) (h2:other<ns.length) (hl:low<high) (hor:low=hf H one∧high=hf H other∨low=hf H other∧high=hf H one) (he:∀e,Cn ns pr e→e one=e other):
  Hm ns pr (H.map λ h=>if h=high then low else h)∧(H.map λ h=>if h=high then low else h).sum+1≤H.sum:=by
 refine ⟨⟨(List.length_map ..).trans x.len,λ a ha=>?_,λ e hc a ha=>?_⟩,?_⟩
 ·rw[F9 (x.len▸ha)]
  have:=x.le a ha
  split<;>(first | exact this | exact Oj hl this ‹_›)
 ·rw[F9 (x.len▸ha)]
  have h3:=x.sd e hc a ha
  split
  ·rename_i e2
   rw[←h3,e2]
   have e4:=x.sd e hc one h1
   have e5:=x.sd e hc other h2
   have e6:=he e hc
   rcases hor with ⟨rfl,rfl⟩ | ⟨rfl,rfl⟩
   ·rw[e4,e5,e6]
   ·rw[e4,e5,e6]
  ·exact h3
 ·have hm:high∈H:=by
   rcases hor with ⟨_,h⟩ | ⟨_,h⟩
   ·rw[h];exact List.mem_of_getElem? (vZ (x.len▸h2))
   ·rw[h];exact List.mem_of_getElem? (vZ (x.len▸h1))
  have:=Al (f:=λ h=>if h=high then low else h) (g:=id) (c:=high) (λ i=>by
   show (if i=high then low else i)≤i
   split<;>(first | exact Qe hl ‹_› | exact Vi)) (by show (if high=high then low else high)+1≤high;rw[if_pos rfl];exact hl) hm
  rw[List.map_id] at this
  exact this
theorem Dv.start (hp:∀p∈pr,p.1<ns.length∧p.2<ns.length):Dv ns pr H [] pr 0:=
 ⟨nofun,nofun,λ _ h=>h,λ p h=>⟨(hp p h).1,(hp p h).2,λ e he=>he.pr p h⟩,Nat.le_refl _,rfl⟩
theorem Dv.old {fst:List (cH×Int)} {du:List (Nat×Nat)} {i f:Nat} (d:Dv ns pr H fst du i) (x:Hm ns pr H) (hk:∀n k,n<ns.length→k∈aL ns n→k<ns.length) (hi:i<ns.length) (hf':fM fst (gO ns H i)=some (f:Int)):Dv ns pr H fst (du++[(f,i)]) (i+1):=by
 obtain ⟨f',h1,h2,h3⟩:=d.src _ _ (jI hf')
 obtain rfl:f=f':=Int.ofNat.inj h1
 refine ⟨λ n hn=>?_,d.src,λ p h=>List.mem_append_left _ (d.prs p h),λ p h=>?_,Nat.le_succ_of_le d.fl,by rw[List.length_append,d.dl];rfl⟩
 ·by_cases e:n=i
  ·subst e;exact ⟨f,hf',List.mem_append_right _ List.mem_cons_self⟩
  ·obtain ⟨g,h4,h5⟩:=d.done n (by exact uR hn e)
   exact ⟨g,h4,List.mem_append_left _ h5⟩
 ·rcases List.mem_append.mp h with h | h
  ·exact d.snd p h
  ·rw[List.mem_singleton] at h
   subst h
   refine ⟨h2,hi,λ e he=>he.cg f i h2 hi (jH h3).1.symm ?_⟩
   have e1:∀n,n<ns.length→(aL ns n).map e=((aL ns n).map (hf H)).map e:=λ n hn=>by
    rw[List.map_map]
    exact List.map_congr_left λ k hkn=>(x.sd e he k (hk n k hn hkn)).symm
   rw[e1 f h2,e1 i hi,(jH h3).2]
theorem Dv.new {fst:List (cH×Int)} {du:List (Nat×Nat)} {i:Nat} (d:Dv ns pr H fst du i) (hi:i<ns.length) (hf':fM fst (gO ns H i)=none):Dv ns pr H (fst++[(gO ns H i,(i:Int))]) (du++[(i,i)]) (i+1):=by
 refine ⟨λ n hn=>?_,λ k m h=>?_,λ p h=>List.mem_append_left _ (d.prs p h),λ p h=>?_,by rw[List.length_append];exact Nat.succ_le_succ d.fl,by rw[List.length_append,d.dl];rfl⟩
 ·by_cases e:n=i
  ·subst e;exact ⟨n,rA hf',List.mem_append_right _ List.mem_cons_self⟩
  ·obtain ⟨g,h4,h5⟩:=d.done n (by exact uR hn e)
   exact ⟨g,rB h4,List.mem_append_left _ h5⟩
 ·rcases List.mem_append.mp h with h | h
  ·exact d.src k m h
  ·rw[List.mem_singleton] at h
   cases h
   exact ⟨i,rfl,hi,rfl⟩
 ·rcases List.mem_append.mp h with h | h
  ·exact d.snd p h
  ·rw[List.mem_singleton] at h
   subst h
   exact ⟨hi,hi,λ _ _=>rfl⟩
theorem Dv.clo {fst:List (cH×Int)} {du:List (Nat×Nat)} (d:Dv ns pr H fst du ns.length) (h:∀p∈du,hf H p.1=hf H p.2):Cn ns pr (hf H) where
 pr:=λ p hp=>h p (d.prs p hp)
 cg:=λ n m hn hm ho hk=>by
  obtain ⟨f,h1,h2⟩:=d.done n hn
  obtain ⟨g,h3,h4⟩:=d.done m hm
  have:gO ns H n=gO ns H m:=by unfold gO;rw[ho,hk]
  rw[this,h3] at h1
  obtain rfl:g=f:=Int.ofNat.inj (Option.some.inj h1)
  have h5:=h _ h2
  have h6:=h _ h4
  dsimp only at h5 h6
  rw[←h5,h6]
end
noncomputable def bU (pr:List (Nat×Nat)):List AV:=pr.map λ p=>.tup [.int (p.1:Int),.int (p.2:Int)]
noncomputable def Dg (t:Tg):Bool:=t== .t 0||t== .t 23||t== .t 26||t== .t 27||t== .t 28||t== .t 29
theorem xM (N:Nat):dD 0 (N:Int)=aS (aQ (List.range N)):=by
 unfold dD aS aQ
 rw[List.map_map,show ((N:Int)-0).toNat=N by exact K1]
 refine List.map_congr_left λ i _=>?_
 show AV.int (0+(i:Int))=AV.int (i:Int)
 rw[Int.zero_add]
theorem nO {H:List Nat} {n:Nat} (h:n<H.length):(aS (aQ H))[n]? =some (.int ((hf H n:Nat):Int)):=by
 rw[aS,aQ,List.getElem?_map,List.getElem?_map,vZ h];rfl
section
variable {c:Cx} {env:Env} {loc:aV} {σ σ':aF}
theorem sZ {x:Str} {pos:Pos} {av:AV} {b:Addr} {ΦA:aV→aF→Prop} (hk:env.kindOf x=some .cell) (hb:env.cells.lookup x=some b) (hn:decide ((env.cells.map (·.1)).Nodup)=true) (h:ΦA (loc.put x av) σ):WA c env loc σ (.Name x pos) av ΦA:=
 Ik hk hb (λ b' hb'=>by
  have:=dX (p:=(x,b')) (of_decide_eq_true hn) hb'
  rw[hb] at this
  exact (Option.some.inj this).symm) h
theorem oQ {x:Str} (hn:(env.cells.map (·.1)).contains x=false):∀a,(x,a)∉env.cells:=λ a ha=>by
 have:(env.cells.map (·.1)).contains x=true:=by
  rw[List.contains_iff_mem];exact List.mem_map.mpr ⟨(x,a),ha,rfl⟩
 rw[hn] at this;cases this
theorem cP {x:Str} {pos:Pos} {av:AV} {ΦA:aV→aF→Prop} (hk:env.kindOf x=some .local) (hn:(env.cells.map (·.1)).contains x=false) (h:ΦA (loc.put x av) σ):WA c env loc σ (.Name x pos) av ΦA:=
 eJ hk h (oQ hn)
theorem bD.back {p:Tg→Bool} {R:Addr} {y:Tg×AO} (x:bD p (σ.del R) σ') (hR:σ R=some y):bD p σ (σ'.put R y):=λ t a o hp e=>by
 by_cases h:a=R
 ·subst h;rw[hR] at e;cases e;exact aF.put_same ..
 ·rw[aF.put_ne _ _ h]
  refine x t a o hp ?_
  unfold aF.del
  rw[if_neg h];exact e
end
theorem iI.eq {c:Cx} {σ σ2 σ3:aF} {a:AV} {tgt:Expr} {xs:List AV} {kp:List (Addr×AO)} (x:iI c σ a tgt xs σ2 kp) (h:∀b,σ2 b=σ3 b):iI c σ a tgt xs σ3 kp:=
 λ env loc ρ s v Q q hv k=>x env loc ρ s v Q q hv λ it s' fp St h1 h2 q' e ap hh=>k it s' fp St h1 h2 q' e ap λ b=>(hh b).trans (h b)
section
variable {c:Cx} {env:Env} {loc:aV} {σ:aF} {Φ:AF→aV→aF→Prop}
theorem qE {x:Str} {elts:List Expr} {k:Nat} {tp:Pos} {body:List Stmt} {pos p1 p2 p3:Pos} {R:Addr} {t:Tg} {xs:List AV} (hx:loc x=some (.ref R)) (hR:σ R=some (t,.list xs)) (Inv:Nat→aV→aF→Prop) (h0:Inv 0 loc (σ.del R))
  (hs:∀i y l σ',xs[i]? =some y→Inv i l σ'→WA c env l σ' (.Tuple elts k tp) (.tup [.int (i:Int),y]) (zX c env body Inv i Φ)) (he:∀l σ',Inv xs.length l σ'→σ' R=none→Φ .next l (σ'.put R (t,.list xs)))
  (hkx:env.kindOf x=some .local:=by rfl) (hk:env.kindOf z215=some .globalImplicit:=by rfl) (hd:(x==("__debug__":Str))=false:=by decide)
  (hf:∀v,foldedSetIterable (.Call (.Name z215 p1) [.Name x p2] [] p3) env v=pure v:=by intro _;rfl):WS c env loc σ (exec (.For (.Tuple elts k tp) (.Call (.Name z215 p1) [.Name x p2] [] p3) body [] pos) env) Φ:=by
 refine Ic (bP (cE c.w 10 rfl) hk bN (aA (aC hx hkx (aB (G8 (.t 29) (.t 28) hR λ I J hJ hI=>?_)) hd))) hf
 have e1:=aF.put_same (σ.put J (.t 29,.lit R)) I (.t 28,.enum J)
 have e2:=aF.put_new (.t 28,.enum J) hI (aF.put_same σ J (.t 29,.lit R))
 have e3:=aF.put_new (.t 28,.enum J) hI (aF.put_new (.t 29,.lit R) hJ hR)
 refine ⟨lN xs,σ.del R,R,t,.list xs,(A4 e1 e2 e3).eq λ b=>?_,Inv,h0,λ i y l σ' hy hI'=>?_,λ l σ' hI'=>?_⟩
 ·have hJI:J≠I:=λ e=>by subst e;rw[aF.put_same] at hI;cases hI
  have hI0:σ I=none:=by rw[aF.put_ne _ _ hJI.symm] at hI;exact hI
  unfold aF.hide aF.del
  by_cases h1:b=R
  ·rw[if_pos (by rw[h1];simp),if_pos h1]
  ·rw[if_neg h1]
   by_cases h2:b=I
   ·rw[if_pos (by rw[h2];simp),h2,hI0]
   ·by_cases h3:b=J
    ·rw[if_pos (by rw[h3];simp),h3,hJ]
    ·rw[if_neg (by simp[h1,h2,h3]),aF.put_ne _ _ h2,aF.put_ne _ _ h3]
 ·obtain ⟨y',hy',rfl⟩:=rY hy
  exact hs i y' l σ' hy' hI'
 ·rw[kS] at hI';exact he l σ' hI'
end
theorem dP {l:List (Str×Addr)} {x:Str} {a:Addr} (h:l.lookup x=some a):(x,a)∈l:=by
 induction l with
 | nil=>cases h
 | cons p r ih=>
  rw[List.lookup_cons] at h
  by_cases e:x=p.1
  ·subst e
   simp only[beq_self_eq_true] at h
   cases h
   exact List.mem_cons_self
  ·rw[show (x==p.1)=false by simpa using e] at h
   exact List.mem_cons_of_mem _ (ih h)
theorem Ho (a b:Nat):(if (b:Int)<(a:Int) then (b:Int) else (a:Int))=((min a b:Nat):Int):=by
 split
 ·rw[Nat.min_eq_right (by exact Jx ‹_›)]
 ·rw[Nat.min_eq_left (by exact Jg ‹_›)]
theorem Hp (a b:Nat):(if (b:Int)>(a:Int) then (b:Int) else (a:Int))=((max a b:Nat):Int):=by
 split
 ·rw[Nat.max_eq_right (by exact U0 ‹_›)]
 ·rw[Nat.max_eq_left (by exact R6 ‹_›)]
inductive Kg (R P:Addr) (ns:iT) (pr:List (Nat×Nat)) (σ:aF) (m:Nat) (loc:aV) (σ':aF):Prop
 | mk (c1:loc z170=some (.ref R)) (c2:loc z210=some (.ref P)) (Hd:Addr) (H:List Nat) (g:Bool) (c3:loc z211=some (.ref Hd)) (c4:loc z212=some (.bool g)) (c5:bD Dg σ σ') (c6:σ' Hd=some (.t 23,.list (aS (aQ H)))) (c7:Hm ns pr H) (c8:(g=false→Cn ns pr (hf H))) (c9:m=if g then H.sum+1 else 0):Kg R P ns pr σ m loc σ'
inductive Gt (R P Hd F Du:Addr) (H:List Nat) (ns:iT) (pr:List (Nat×Nat)) (σ:aF) (i:Nat) (loc:aV) (σ':aF):Prop
 | mk (c1:loc z170=some (.ref R)) (c2:loc z210=some (.ref P)) (c3:loc z211=some (.ref Hd)) (c4:loc z212=some (.bool false)) (c5:loc z213=some (.ref F)) (c6:loc z214=some (.ref Du)) (fst:List (cH×Int)) (du:List (Nat×Nat)) (c7:bD Dg (σ.del R) σ') (c8:σ' Hd=some (.t 23,.list (aS (aQ H)))) (c9:σ' F=some (.t 26,.tdict (fst.map λ p=>(p.1,.int p.2)))) (c10:σ' Du=some (.t 27,.list (bU du))) (c11:Dv ns pr H fst du i):Gt R P Hd F Du H ns pr σ i loc σ'
inductive Gs (R P:Addr) (H:List Nat) (ns:iT) (pr du:List (Nat×Nat)) (σ:aF) (i:Nat) (loc:aV) (σ':aF):Prop
 | mk (c1:loc z170=some (.ref R)) (c2:loc z210=some (.ref P)) (Hd':Addr) (H':List Nat) (g:Bool) (c3:loc z211=some (.ref Hd')) (c4:loc z212=some (.bool g)) (c5:bD Dg σ σ') (c6:σ' Hd'=some (.t 23,.list (aS (aQ H')))) (c7:Hm ns pr H') (c8:(g=false→H'=H∧∀p∈du.take i,hf H p.1=hf H p.2)) (c9:(g=true→H'.sum+1≤H.sum)):Gs R P H ns pr du σ i loc σ'
section
variable {c:Cx} {σ:aF} {Φ:AV→aF→Prop}
theorem F0 (hc:1≤c.n) {R P:Addr} {ns:iT} {pr:List (Nat×Nat)} (hR:σ R=some (.t 20,.list (bQ ns))) (hP:σ P=some (.t 24,.list (bU pr))) (hN:ns.length≤100) (hpl:pr.length≤100) (hp:∀p∈pr,p.1<ns.length∧p.2<ns.length)
  (hkid:∀(i:Nat) n,ns[i]? =some n→n.2.length≤3∧∀k∈n.2,0≤k∧k<i)
  (h:∀σ' D H,bD Dg σ σ'→Hm ns pr H→Cn ns pr (hf H)→σ' D=some (.t 23,.list (aS (aQ H)))→Φ (.ref D) σ'):gG c σ (.ref 521) [.ref R,.ref P] Φ:=by
 have hl:(bQ ns).length=ns.length:=List.length_map ..
 have hkd:∀n k,n<ns.length→k∈aL ns n→k<ns.length:=λ n k hn hk=>by
  unfold aL at hk
  rw[List.getD_eq_getElem?_getD,List.getElem?_eq_getElem hn] at hk
  obtain ⟨x,hx,rfl⟩:=List.mem_map.mp hk
  have:=(hkid n _ (List.getElem?_eq_getElem hn)).2 x hx
  exact Jd hn this
 refine (yS c.w).call hc rfl λ K=>aE (aJ (aZ (aA (bP (cE c.w 6 rfl) rfl bN (aA (bP (cE c.w 9 rfl) rfl bN (aA (bP (cZ c.w) rfl aK (aA (aC rfl rfl (aB (bK hR (by exact Ta hN hl) (aB ?_)))))))))))))
 rw[hl]
 refine jD (.t 0) λ Rg hRg=>aB (lX (.t 23) (aF.put_same ..) (by exact Int.natCast_nonneg _) (by exact AL hN) λ H0 hH0=>aA (fC (aB ⟨by simp,?_⟩)))
 refine cX (sZ (b:=K+1) rfl rfl rfl (cP rfl rfl ?_)) rfl
 rw[xM]
 have E0:bD Dg σ ((σ.put Rg (.t 0,.range 0 (ns.length:Int))).put H0 (.t 23,.list (aS (aQ (List.range ns.length))))):=((bD.refl σ).put (.inl hRg)).put (.inl hH0)
 refine aE (jS (Kg R P ns pr σ) ((List.range ns.length).sum+1) ⟨rfl,rfl,H0,_,true,rfl,rfl,E0,aF.put_same ..,Hm.start,nofun,rfl⟩ ?_)
 rintro m loc σ1 ⟨h1,h2,Hd,H,g,h3,h4,E1,hH,hm,hcl,rfl⟩
 refine gB (aC h4 rfl (fS ?_))
 cases g with
 | false=>
  rw[if_neg (by simp)]
  exact aE (aR (cG (a:=K+1) h3 (.inl rfl) rfl ⟨_,rfl,h σ1 Hd H E1 hm (hcl rfl) hH⟩))
 | true=>
 rw[if_pos rfl]
 have hR1:=E1 _ _ _ rfl hR
 have hP1:=E1 _ _ _ rfl hP
 have hll:H.length=ns.length:=hm.len
 refine aE (eI rfl rfl rfl (oQ rfl) (oQ rfl) (aZ (aA (fC (aA (oE (.t 26) λ F hF=>aB ⟨by simp,_,_,rfl,?_⟩))))))
 have E2:=E1.put (a:=F) (y:=(.t 26,.tdict [])) (.inl hF)
 have lP:(bU pr).length≤10000000:=Nat.le_trans (Nat.le_of_eq (List.length_map ..)) (by exact Nat.le_trans ‹_› (Nat.le_of_ble_eq_true rfl))
 refine aE (aJ (bP (cE c.w 6 rfl) rfl bN (aA (aC h2 rfl (aB (oG (.t 27) (aF.put_new _ hF hP1) lP λ Du hDu=>cP rfl rfl ?_))))))
 have E3:=E2.put (a:=Du) (y:=(.t 27,.list (bU pr))) (.inl hDu)
 have hR3:=E3 _ _ _ rfl hR
 have hH3:=aF.put_new (.t 27,.list (bU pr)) hDu (aF.put_new (.t 26,.tdict []) hF hH)
 have hF3:=aF.put_new (.t 27,.list (bU pr)) hDu (aF.put_same σ1 F (.t 26,.tdict []))
 have hD3:=aF.put_same (σ1.put F (.t 26,.tdict [])) Du (.t 27,.list (bU pr))
 obtain ⟨σB,hσB⟩:∃σB,σB=(σ1.put F (.t 26,.tdict [])).put Du (.t 27,.list (bU pr)):=⟨_,rfl⟩
 rw[←hσB] at hR3 hH3 hF3 hD3 E3⊢
 refine aE (qE h1 hR3 (Gt R P Hd F Du H ns pr σB) ⟨h1,h2,h3,rfl,rfl,rfl,[],pr,.refl _,aF.del_tag hR3 hH3 (dK rfl),aF.del_tag hR3 hF3 (dK rfl),aF.del_tag hR3 hD3 (dK rfl),Dv.start hp⟩ ?_ ?_)
 ·rintro i y loc' σ4 hyr ⟨i1,i2,i3,i4,i5,i6,fst,du,E5,a3,a1,a2,d⟩
  rw[bQ,List.getElem?_map] at hyr
  obtain ⟨nd,hnd,rfl⟩:=Option.map_eq_some_iff.mp hyr
  have hi:i<ns.length:=(List.getElem?_eq_some_iff.mp hnd).1
  obtain ⟨hk3,hkk⟩:=hkid i nd hnd
  have lF:(fst.map λ p=>(p.1,AV.int p.2)).length≤10000000:=by rw[List.length_map];have:=d.fl;exact Ps hN hi this
  have lD:(bU du).length≤10000000:=by rw[bU,List.length_map,d.dl];exact Pq hN hpl hi
  rw[gI]
  refine cX (cP rfl rfl (cP rfl rfl ?_)) rfl
  refine aE (bA (cO (cN a2) (aM i6 rfl) (aA (aZ (aA (cO (mJ a1) (aM i5 rfl) (aA (aU (aZ (aA (bF (aC rfl rfl (aY (mM (i:=0) rfl (aB ⟨by simp,?_⟩)))))))))))))))
  refine bP (cE c.w 7 rfl) rfl bN (aA (bW (cl:=[(z211,K+1)]) (bY.of (by kernel_rfl) rfl (λ p hp=>by rw[List.mem_singleton] at hp;subst hp;exact dP rfl) (List.pairwise_singleton _ _)) (.t 0) ?_))
  refine gS (aC rfl rfl ⟨_,_,rfl,_,_,dQ rfl,by rw[aN];exact vW hk3,λ j acc σ''=>σ4=σ''∧acc=aS (aQ (((aL ns i).map (hf H)).take j)),⟨⟨rfl,rfl⟩,?_⟩,?_⟩)
  ·rintro C j y acc _ hy ⟨rfl,rfl⟩
   rw[aS,List.getElem?_map] at hy
   obtain ⟨k,hk1,rfl⟩:=Option.map_eq_some_iff.mp hy
   obtain ⟨k0,k1⟩:=hkk k (List.mem_of_getElem? hk1)
   obtain ⟨n,rfl⟩:=Int.eq_ofNat_of_zero_le k0
   refine bF (cG (a:=K+1) i3 (.inl rfl) rfl (aC (if_pos rfl) rfl (bC a3 (nO (by exact I2 hll hi k1)) (by exact Pt hN hi k1) ⟨rfl,?_⟩)))
   have:((aL ns i).map (hf H))[j]? =some (hf H n):=by
    unfold aL
    rw[List.getD_eq_getElem?_getD,hnd,List.getElem?_map,List.getElem?_map]
    show Option.map (hf H) (Option.map Int.toNat nd.2[j]?)=_
    rw[hk1];rfl
   rw[List.take_add_one,this,gK,←dG];rfl
  rintro acc _ D6 ⟨rfl,rfl⟩ hl6 hD6
  have lk6:((aL ns i).map (hf H)).take (aS nd.2).length=(aL ns i).map (hf H):=by
   refine List.take_of_length_le ?_
   unfold aL
   rw[List.getD_eq_getElem?_getD,hnd,aN,List.length_map,List.length_map]
   exact Nat.le_refl _
  rw[lk6]
  have lk7:((aL ns i).map (hf H)).length≤3:=by
   unfold aL
   rw[List.getD_eq_getElem?_getD,hnd,List.length_map,List.length_map]
   exact hk3
  refine aB (xH (aF.put_same ..) (by rw[aN,dL];exact vW lk7) (pU ?_ (Nat.le_trans (Nat.add_le_add_left (Nat.le_trans (Nat.le_of_eq ((aN _).trans (dL _))) lk7) 1) (by decide))))
  have hop:qS ns i=nd.1:=by unfold qS;rw[List.getD_eq_getElem?_getD,hnd];rfl
  rw[show AV.tup ([AV.str nd.1]++aS (aQ ((aL ns i).map (hf H))))=(gO ns H i).av by rw[gO,gI,hop];rfl]
  refine aA (aC rfl rfl (aB ?_))
  have E6:=E5.put (a:=D6) (y:=(.t 0,.list (aS (aQ ((aL ns i).map (hf H)))))) (.inl hD6)
  have b1:=aF.put_new (.t 0,.list (aS (aQ ((aL ns i).map (hf H))))) hD6 a1
  have b2:=aF.put_new (.t 0,.list (aS (aQ ((aL ns i).map (hf H))))) hD6 a2
  have b3:=aF.put_new (.t 0,.list (aS (aQ ((aL ns i).map (hf H))))) hD6 a3
  refine kN b1 lF (λ y hy=>?_) λ hnew=>?_
  ·rw[pS] at hy
   obtain ⟨m,hm',rfl⟩:=Option.map_eq_some_iff.mp hy
   obtain ⟨f,hf0,_,_⟩:=d.src _ _ (jI hm')
   subst hf0
   refine aA (aC rfl rfl (aB ⟨by simp,aB (bR b2 lD ?_)⟩))
   rw[show bU du++[AV.tup [.int (f:Int),.int (i:Int)]]=bU (du++[(f,i)]) by unfold bU;rw[List.map_append];rfl]
   exact aP ⟨i1,i2,i3,i4,i5,i6,fst,_,E6.put (.inr ⟨_,_,rfl,b2⟩),aF.put_tag _ b2 b3 (dK rfl),aF.put_tag _ b2 b1 (dK rfl),aF.put_same ..,d.old hm hkd hi hm'⟩
  ·rw[pS] at hnew
   have hnew':=Option.map_eq_none_iff.mp hnew
   rw[show (fst.map λ p=>(p.1,AV.int p.2))++[(gO ns H i,AV.int (i:Int))]=(fst++[(gO ns H i,(i:Int))]).map λ p=>(p.1,AV.int p.2) by rw[List.map_append];rfl]
   have c2:=aF.put_tag (.t 26,.tdict ((fst++[(gO ns H i,(i:Int))]).map λ p=>(p.1,AV.int p.2))) b1 b2 (dK rfl)
   have c3:=aF.put_tag (.t 26,.tdict ((fst++[(gO ns H i,(i:Int))]).map λ p=>(p.1,AV.int p.2))) b1 b3 (dK rfl)
   have E7:=E6.put (y:=(.t 26,.tdict ((fst++[(gO ns H i,(i:Int))]).map λ p=>(p.1,AV.int p.2)))) (.inr ⟨_,_,rfl,b1⟩)
   refine aA (aC rfl rfl (aB ⟨by simp,aB (bR c2 lD ?_)⟩))
   rw[show bU du++[AV.tup [.int (i:Int),.int (i:Int)]]=bU (du++[(i,i)]) by unfold bU;rw[List.map_append];rfl]
   exact aP ⟨i1,i2,i3,i4,i5,i6,_,_,E7.put (.inr ⟨_,_,rfl,c2⟩),aF.put_tag _ c2 c3 (dK rfl),aF.put_tag _ c2 (aF.put_same ..) (dK rfl),aF.put_same ..,d.new hi hnew'⟩
 rintro loc' σ4 ⟨i1,i2,i3,i4,i5,i6,fst,du,E5,a3,a1,a2,d⟩ hRn
 rw[hl] at d
 have E6:=E3.trans (E5.back hR3)
 have g3:=aF.put_new (.t 20,.list (bQ ns)) hRn a3
 have g2:=aF.put_new (.t 20,.list (bQ ns)) hRn a2
 refine aE (lT (aC i6 rfl ⟨_,_,eU rfl g2,Gs R P H ns pr du σ,⟨i1,i2,Hd,H,false,i3,i4,E6.del g2 rfl,aF.del_tag g2 g3 (dK rfl),hm,λ _=>⟨rfl,nn⟩,nofun⟩,?_,?_⟩))
 ·rintro i y loc'' σ5 hy ⟨j1,j2,Hd',H',g,j3,j4,E7,hH',hm',q1,q2⟩
  rw[bU,List.getElem?_map] at hy
  obtain ⟨⟨x1,x2⟩,hx,rfl⟩:=Option.map_eq_some_iff.mp hy
  obtain ⟨hx1,hx2,hxe⟩:=d.snd _ (List.mem_of_getElem? hx)
  dsimp only at hx1 hx2 hxe
  have hl':=hm'.len
  have hn1:∀{Ψ:AV→aF→Prop} {loc:aV} {p1 p2 p3:Pos},loc z211=some (.ref Hd')→loc z27=some (.int (x1:Int))→Ψ (.int ((hf H' x1:Nat):Int)) σ5→WE (c.deep (bB eZ K 521)) (bB eZ K 521) loc σ5 (.Subscript (.Name z211 p1) (.Name z27 p2) p3) Ψ:=λ a b hΨ=>
   bF (cG (a:=K+1) a (.inl rfl) rfl (aC b rfl (bC hH' (nO (by exact Nat.lt_of_lt_of_eq ‹_› (Eq.symm ‹_›))) (by exact Jl hN hx1) hΨ)))
  have hn2:∀{Ψ:AV→aF→Prop} {loc:aV} {p1 p2 p3:Pos},loc z211=some (.ref Hd')→loc z28=some (.int (x2:Int))→Ψ (.int ((hf H' x2:Nat):Int)) σ5→WE (c.deep (bB eZ K 521)) (bB eZ K 521) loc σ5 (.Subscript (.Name z211 p1) (.Name z28 p2) p3) Ψ:=λ a b hΨ=>
   bF (cG (a:=K+1) a (.inl rfl) rfl (aC b rfl (bC hH' (nO (by exact Nat.lt_of_lt_of_eq ‹_› (Eq.symm ‹_›))) (by exact Jl hN hx2) hΨ)))
  refine cX (cP rfl rfl (cP rfl rfl ?_)) rfl
  refine aE (aJ (aZ (aA (bP (cE c.w 3 rfl) rfl aK (aA (hn1 j3 rfl (aA (hn2 j3 rfl (aB (vJ ?_))))))))))
  rw[Ho]
  refine aA (bP (cE c.w 2 rfl) rfl aK (aA (hn1 j3 rfl (aA (hn2 j3 rfl (aB (G6 (aB ⟨by simp,?_⟩))))))))
  rw[Hp]
  refine cX (sZ (b:=K+2) rfl rfl rfl (sZ (b:=K+3) rfl rfl rfl ?_)) rfl
  refine aE (eG (aT (cG (a:=K+2) rfl (.inl rfl) rfl (cG (a:=K+3) rfl (.inl rfl) rfl (Bx ⟨_,rfl,?_⟩)))))
  by_cases he:hf H' x1=hf H' x2
  ·rw[he,Nat.min_self,Nat.max_self,show (((hf H' x2:Nat):Int) !=((hf H' x2:Nat):Int))=false by simp,if_neg (by simp)]
   refine aP (aP ⟨j1,j2,Hd',H',g,j3,j4,E7,hH',hm',λ hg=>?_,q2⟩)
   obtain ⟨eH,hall⟩:=q1 hg
   refine ⟨eH,λ p hp'=>?_⟩
   rw[List.take_add_one,hx,List.mem_append] at hp'
   rcases hp' with hp' | hp'
   ·exact hall p hp'
   ·rw[List.mem_singleton.mp hp'];exact eH▸he
  ·have hlt:min (hf H' x1) (hf H' x2)<max (hf H' x1) (hf H' x2):=by exact Ry he
   rw[show (((min (hf H' x1) (hf H' x2):Nat):Int) !=((max (hf H' x1) (hf H' x2):Nat):Int))=true by rw[bne_iff_ne];exact Uy hlt,if_pos rfl]
   obtain ⟨lo,hlo⟩:∃lo,lo=min (hf H' x1) (hf H' x2):=⟨_,rfl⟩
   obtain ⟨hi,hhi⟩:∃hi,hi=max (hf H' x1) (hf H' x2):=⟨_,rfl⟩
   have hor:lo=hf H' x1∧hi=hf H' x2∨lo=hf H' x2∧hi=hf H' x1:=by
    rcases Nat.lt_or_ge (hf H' x1) (hf H' x2) with h5 | h5
    ·exact .inl ⟨hlo.trans (Nat.min_eq_left (Nat.le_of_lt h5)),hhi.trans (Nat.max_eq_right (Nat.le_of_lt h5))⟩
    ·exact .inr ⟨hlo.trans (Nat.min_eq_right h5),hhi.trans (Nat.max_eq_left h5)⟩
   rw[←hlo,←hhi] at hlt⊢
   clear hlo hhi
   obtain ⟨r1,r2⟩:=hm'.repl hx1 hx2 hlt hor hxe
   refine aE (aJ (aZ (aA (bW (cl:=[(z216,K+2),(z217,K+3)]) (bY.of (by kernel_rfl) rfl (λ p hp=>by
    rcases List.mem_cons.mp hp with rfl | hp
    ·exact dP rfl
    ·rw[List.mem_singleton] at hp;subst hp;exact dP rfl) (List.pairwise_cons.mpr ⟨λ p hp=>by rw[List.mem_singleton] at hp;subst hp;exact Nat.ne_of_lt (Nat.lt_succ_self (K+2)),List.pairwise_singleton _ _⟩)) (.t 23) (cG (a:=K+1) j3 (.inl rfl) rfl ?_)))))
   have lH:(aS (aQ H')).length=H'.length:=by rw[aN,dL]
   refine ⟨_,_,eU rfl hH',by exact Pr hN hl' lH,λ j acc σ''=>σ5.del Hd'=σ''∧acc=aS (aQ ((H'.take j).map λ h=>if h=hi then lo else h)),⟨⟨rfl,rfl⟩,?_⟩,?_⟩
   ·rintro C j y acc _ hy ⟨rfl,rfl⟩
    rw[aS,aQ,List.getElem?_map,List.getElem?_map] at hy
    obtain ⟨y1,hy1,rfl⟩:=Option.map_eq_some_iff.mp hy
    obtain ⟨y2,hy2,rfl⟩:=Option.map_eq_some_iff.mp hy1
    refine iE (aT (aC (if_pos rfl) rfl (cG (a:=K+3) rfl (.inl rfl) rfl (qR ⟨_,rfl,?_⟩))))
    have nx:aS (aQ ((H'.take j).map λ h=>if h=hi then lo else h))++[.int (((if y2=hi then lo else y2):Nat):Int)]=aS (aQ ((H'.take (j+1)).map λ h=>if h=hi then lo else h)):=by
     rw[List.take_add_one,hy2,List.map_append,gK,←dG];rfl
    by_cases e:y2=hi
    ·rw[show (((y2:Nat):Int)==((hi:Nat):Int))=true by simp[e],if_pos rfl]
     rw[if_pos e] at nx
     exact cG (a:=K+2) rfl (.inl rfl) rfl ⟨rfl,nx⟩
    ·rw[show (((y2:Nat):Int)==((hi:Nat):Int))=false by rw[beq_eq_false_iff_ne];exact Fe e,if_neg (by simp)]
     rw[if_neg e] at nx
     exact aC (if_pos rfl) rfl ⟨rfl,nx⟩
   rintro acc _ D8 ⟨rfl,rfl⟩ hl8 hD8
   rw[lH,List.take_length]
   refine aA (fC (aB ⟨by simp,cX (sZ (b:=K+1) rfl rfl rfl (cP rfl rfl ?_)) rfl⟩))
   refine aP (aP ⟨j1,j2,D8,_,true,rfl,rfl,(E7.del hH' rfl).put (.inl hD8),aF.put_same ..,r1,nofun,λ _=>?_⟩)
   cases g with
   | false=>rw[(q1 rfl).1] at r2⊢;exact r2
   | true=>have:=q2 rfl;exact Ja r2 this
 ·rintro loc'' σ5 ⟨j1,j2,Hd',H',g,j3,j4,E7,hH',hm',q1,q2⟩
  rw[bU,List.length_map,List.take_length] at q1
  cases g with
  | false=>
   obtain ⟨rfl,hall⟩:=q1 rfl
   exact aP ⟨0,Nat.succ_pos _,j1,j2,Hd',H',false,j3,j4,E7,hH',hm',λ _=>d.clo hall,rfl⟩
  | true=>exact aP ⟨H'.sum+1,by have:=q2 rfl;show _<(if true=true then H.sum+1 else 0);rw[if_pos rfl];exact Ju this,j1,j2,Hd',H',true,j3,j4,E7,hH',hm',nofun,rfl⟩
end
structure Lv (ns:iT) (z:Bool) (r wt:Nat→Nat) (f:Dt) (i:Nat):Prop where
 jus:G1 ns z r (lk f)
 ok:xD ns.length f
 le:∀c v,f.lookup c=some v→v≤1540
 cov:∀n,n<i→n<ns.length→∃v,v≤wt n∧f.lookup (r n)=some v
section
variable {ns:iT} {z:Bool} {r wt:Nat→Nat} {f:Dt} {i x:Nat}
theorem Hr (v:Lv ns z r wt f i) (W:uA ns wt) (hi:i<ns.length) (hr:r i<ns.length) (hx:nB ns z r (lk f) i=some x) (hw:x≤wt i) (h:∀u,f.lookup (r i)=some u→x<u) (full:i+1=i+1):
  (∀j,Lv ns z r wt f j→j≤i∨j=ns.length→Lv ns z r wt (dZ f (r i) x) j)∧Lv ns z r wt (dZ f (r i) x) (i+1)∧jC (dZ f (r i) x) ns.length+1≤jC f ns.length:=by
 have hx40:x≤1540:=Nat.le_trans hw (W.wt i hi).2
 have low:Gq (lk f) (lk (dZ f (r i) x)):=λ c u hu=>by
  show ∃w,w≤u∧(dZ f (r i) x).lookup c=some w
  rw[cF]
  by_cases e:c=r i
  ·subst e;exact ⟨x,Nat.le_of_lt (h u hu),if_pos rfl⟩
  ·exact ⟨u,Nat.le_refl _,by rw[if_neg e];exact hu⟩
 have jus:G1 ns z r (lk (dZ f (r i) x)):=λ c u hu=>by
  have hu':(dZ f (r i) x).lookup c=some u:=hu
  rw[cF] at hu'
  by_cases e:c=r i
  ·rw[if_pos e] at hu';cases hu'
   obtain ⟨y,hy,e2⟩:=vG low hx
   exact ⟨i,y,hi,e.symm,e2,hy⟩
  ·rw[if_neg e] at hu'
   obtain ⟨n,w,h1,h2,h3,h4⟩:=v.jus c u hu'
   obtain ⟨y,hy,e2⟩:=vG low h3
   exact ⟨n,y,h1,h2,e2,Nat.le_trans hy h4⟩
 have le:∀c u,(dZ f (r i) x).lookup c=some u→u≤1540:=λ c u hu=>by
  rw[cF] at hu
  split at hu
  ·cases hu;exact hx40
  ·exact v.le c u hu
 have ok:=v.ok.put (k:=r i) (v:=x) hr (by exact Nat.le_trans ‹_› (Nat.le_of_ble_eq_true rfl))
 have cv:∀j,Lv ns z r wt f j→∀n,n<j→n<ns.length→∃u,u≤wt n∧(dZ f (r i) x).lookup (r n)=some u:=λ j vj n hn hnl=>by
  obtain ⟨u,h1,h2⟩:=vj.cov n hn hnl
  obtain ⟨w,h3,h4⟩:=low _ _ h2
  exact ⟨w,Nat.le_trans h3 h1,h4⟩
 refine ⟨λ j vj _=>⟨jus,ok,le,cv j vj⟩,⟨jus,ok,le,λ n hn hnl=>?_⟩,zB hr ?_⟩
 ·by_cases e:n=i
  ·subst e;exact ⟨x,hw,by rw[cF,if_pos rfl]⟩
  ·exact cv i v n (by exact uR hn e) hnl
 ·unfold sH
  cases e:f.lookup (r i) with
  | none=>show x+1≤1541;exact Z7 hx40
  | some u=>exact h u e
theorem Ex (v:Lv ns z r wt f i) (W:uA ns wt) (hi:i<ns.length) (hk:∀k∈aL ns i,k<i):∃x,nB ns z r (lk f) i=some x∧x≤wt i:=by
 obtain ⟨y,hy⟩:=Ha (z:=z) (f:=λ k=>lk f (r k)) (ks:=aL ns i) λ k hkk=>let ⟨u,_,h⟩:=v.cov k (hk k hkk) (Nat.lt_trans (hk k hkk) hi);⟨u,h⟩
 refine ⟨y+1,by unfold nB;rw[hy];rfl,?_⟩
 have h1:=Bs (f:=λ k=>lk f (r k)) (wt:=wt) (λ k hkk u hu=>by
  obtain ⟨w,h2,h3⟩:=v.cov k (hk k hkk) (Nat.lt_trans (hk k hkk) hi)
  have:lk f (r k)=some w:=h3
  rw[hu] at this;cases this;exact h2) hy
 have:=(W.wt i hi).1
 exact I4 h1 this
end
theorem Fv {c:Cx} {env:Env} {loc:aV} {σ:aF} {Ψ:AV→aF→Prop} (z:Bool) {e1 e2:Expr} (P:AV→aF→Prop) (h1:z=true→WE c env loc σ e1 P) (h2:z=false→WE c env loc σ e2 P) (k:∀a σ',P a σ'→Ψ a σ'):if z=true then WE c env loc σ e1 Ψ else WE c env loc σ e2 Ψ:=by
 cases z with
 | true=>rw[if_pos rfl];exact WX.mono (h1 rfl) k
 | false=>rw[if_neg (by simp)];exact WX.mono (h2 rfl) k
noncomputable def qZ (t:Tg):Bool:=t== .t 0||t== .t 28||t== .t 29
theorem bD.delL {p:Tg→Bool} {σ σ':aF} (x:bD p σ σ') {D:Addr}:bD p (σ.del D) σ':=λ t a o hp e=>by
 unfold aF.del at e
 split at e
 ·cases e
 ·exact x t a o hp e
theorem bD.back2 {p:Tg→Bool} {σ σB σ':aF} {R D:Addr} {y:Tg×AO} (x:bD p σ σB) (hD:σ D=none) (z:bD p ((σB.del R).del D) σ') (hR:σB R=some y):bD p σ (σ'.put R y):=λ t a o hp e=>by
 have h1:a≠D:=λ h=>by subst h;rw[hD] at e;cases e
 have h2:=x t a o hp e
 by_cases h:a=R
 ·subst h;rw[hR] at h2;cases h2;exact aF.put_same ..
 ·rw[aF.put_ne _ _ h]
  refine z t a o hp ?_
  unfold aF.del
  rw[if_neg h1,if_neg h];exact h2
inductive Kc (R Hd D:Addr) (tD:Tg) (z:Bool) (ns:iT) (r wt:Nat→Nat) (σ:aF) (m:Nat) (loc:aV) (σ':aF):Prop
 | mk (c1:loc z170=some (.ref R)) (c2:loc z211=some (.ref Hd)) (c3:loc z219=some (.bool z)) (c4:loc z52=some (.ref D)) (g:Bool) (f:Dt) (c5:loc z212=some (.bool g)) (c6:bD qZ σ σ') (c7:σ' D=some (tD,.idict (lO f))) (c8:Lv ns z r wt f 0) (c9:(g=false→Gz ns z r (lk f)∧Lv ns z r wt f ns.length)) (c10:(Lv ns z r wt f ns.length∨f=[])) (c11:m=if g then jC f ns.length+1 else 0):Kc R Hd D tD z ns r wt σ m loc σ'
inductive wZ (R Hd D:Addr) (tD:Tg) (z:Bool) (ns:iT) (r wt:Nat→Nat) (f0:Dt) (σ σB:aF) (i:Nat) (loc:aV) (σ':aF):Prop
 | mk (c1:loc z170=some (.ref R)) (c2:loc z211=some (.ref Hd)) (c3:loc z219=some (.bool z)) (c4:loc z52=some (.ref D)) (g:Bool) (f:Dt) (c5:loc z212=some (.bool g)) (c6:bD qZ ((σB.del R).del D) σ') (c7:σ' D=some (tD,.idict (lO f))) (c8:Lv ns z r wt f i) (c9:(g=false→f=f0∧∀n x,n<i→nB ns z r (lk f) n=some x→∃v,v≤x∧f.lookup (r n)=some v)) (c10:(g=true→jC f ns.length+1≤jC f0 ns.length)):wZ R Hd D tD z ns r wt f0 σ σB i loc σ'
section
variable {c:Cx} {σ:aF} {Φ:AV→aF→Prop}
theorem yC (hc:1≤c.n) {R Hd:Addr} {tD:Tg} {z:Bool} {ns:iT} {H:List Nat} {wt:Nat→Nat} (htD:tD≠ .t 20∧tD≠ .t 28∧tD≠ .t 29) (htH:tD≠ .t 23) (hR:σ R=some (.t 20,.list (bQ ns))) (hH:σ Hd=some (.t 23,.list (aS (aQ H)))) (hHl:H.length=ns.length) (hle:∀a,a<ns.length→hf H a≤a)
  (hN:ns.length≤40) (hkid:∀(i:Nat) n,ns[i]? =some n→n.2.length≤3∧∀k∈n.2,0≤k∧k<i) (W:uA ns wt)
  (h:∀σ' D f,σ D=none→bD qZ σ σ'→σ' D=some (tD,.idict (lO f))→Lv ns z (hf H) wt f ns.length→Gz ns z (hf H) (lk f)→Φ (.ref D) σ'):gG c σ (.ref 526) [.ref R,.ref Hd,.bool z] Φ:=by
 have hl:(bQ ns).length=ns.length:=List.length_map ..
 refine (yR c.w).call hc rfl λ K=>aE (aJ (aZ (aA (iF tD λ D hD=>aA (fC (aB ⟨by simp,cX (sZ (b:=K+2) rfl rfl rfl (cP rfl rfl ?_)) rfl⟩))))))
 have lv0:Lv ns z (hf H) wt [] 0:=⟨nofun,⟨List.nodup_nil,nn⟩,nofun,λ n hn=>absurd hn (Nat.not_lt_zero _)⟩
 refine aE (jS (Kc R Hd D tD z ns (hf H) wt σ) (jC [] ns.length+1) ⟨rfl,rfl,rfl,rfl,true,[],rfl,(bD.refl σ).put (.inl hD),aF.put_same ..,lv0,nofun,.inr rfl,rfl⟩ ?_)
 rintro m loc σ1 ⟨h1,h2,h3,h4,g,f0,h5,E1,hD1,v0,hst,hcov,rfl⟩
 refine gB (aC h5 rfl (fS ?_))
 cases g with
 | false=>
  rw[if_neg (by simp)]
  exact aE (aR (cG (a:=K+2) h4 (.inl rfl) rfl ⟨_,rfl,h σ1 D f0 hD E1 hD1 (hst rfl).2 (hst rfl).1⟩))
 | true=>
 rw[if_pos rfl]
 refine aE (aJ (fC (cP rfl rfl ?_)))
 have hR1:=E1 _ _ _ rfl hR
 have hH1:=E1 _ _ _ rfl hH
 refine aE (qE h1 hR1 (wZ R Hd D tD z ns (hf H) wt f0 σ σ1) ⟨h1,h2,h3,h4,false,f0,rfl,.delL (.refl _),aF.del_tag hR1 hD1 htD.1,v0,λ _=>⟨rfl,λ n x hn=>absurd hn (Nat.not_lt_zero _)⟩,nofun⟩ ?_ ?_)
 ·rintro i y loc' σ4 hyr ⟨i1,i2,i3,i4,g,f,i5,E5,aD,v,q1,q2⟩
  rw[bQ,List.getElem?_map] at hyr
  obtain ⟨nd,hnd,rfl⟩:=Option.map_eq_some_iff.mp hyr
  have hi:i<ns.length:=(List.getElem?_eq_some_iff.mp hnd).1
  obtain ⟨hk3,hkk⟩:=hkid i nd hnd
  have hHR:Hd≠R:=gA hH hR (dK rfl)
  have hHD:Hd≠D:=gA hH1 hD1 (Ne.symm htH)
  have aH:σ4 Hd=some (.t 23,.list (aS (aQ H))):=E5 _ _ _ rfl (by unfold aF.del;rw[if_neg hHD,if_neg hHR];exact hH1)
  have hkids:aL ns i=nd.2.map Int.toNat:=by unfold aL;rw[List.getD_eq_getElem?_getD,hnd];rfl
  have hki:∀k∈aL ns i,k<i:=λ k hk=>by
   rw[hkids] at hk
   obtain ⟨x,hx,rfl⟩:=List.mem_map.mp hk
   have:=hkk x hx
   exact Iy this
  obtain ⟨x,hx,hxw⟩:=Ex v W hi hki
  obtain ⟨x0,hx0,rfl⟩:=jU hx
  have hri:hf H i<ns.length:=Nat.lt_of_le_of_lt (hle i hi) hi
  rw[gI]
  refine cX (cP rfl rfl (cP rfl rfl ?_)) rfl
  refine aE (kT (cl:=[(z211,K+1),(z52,K+2)]) (bY.of (by kernel_rfl) rfl (λ p hp=>by
   rcases List.mem_cons.mp hp with rfl | hp
   ·exact dP rfl
   ·rw[List.mem_singleton] at hp;subst hp;exact dP rfl) (List.pairwise_cons.mpr ⟨λ p hp=>by rw[List.mem_singleton] at hp;subst hp;exact Nat.ne_of_lt (Nat.lt_succ_self (K+1)),List.pairwise_singleton _ _⟩)) (.t 0) ?_ rfl rfl (oQ rfl))
  refine gS (aC rfl rfl ⟨_,_,rfl,_,_,dQ rfl,by rw[aN];exact vW hk3,λ j acc σ''=>σ4=σ''∧acc=(((aL ns i).take j).map λ k=>f.lookup (hf H k)).map cV,⟨⟨rfl,rfl⟩,?_⟩,?_⟩)
  ·rintro C j y acc _ hy ⟨rfl,rfl⟩
   rw[aS,List.getElem?_map] at hy
   obtain ⟨k,hk1,rfl⟩:=Option.map_eq_some_iff.mp hy
   obtain ⟨k0,k1⟩:=hkk k (List.mem_of_getElem? hk1)
   obtain ⟨n,rfl⟩:=Int.eq_ofNat_of_zero_le k0
   refine cO (oS aD) (dH (a:=K+2) i4 (.inl rfl) rfl) (aA (bF (cG (a:=K+1) i2 (.inl rfl) rfl (aC (if_pos rfl) rfl (bC aH (nO (by exact I2 hHl hi k1)) (by exact Pn hN hi k1) (aB (iJ aD ⟨rfl,?_⟩)))))))
   have:(aL ns i)[j]? =some n:=by rw[hkids,List.getElem?_map,hk1];rfl
   rw[gQ,List.take_add_one,this,List.map_append,List.map_append];rfl
  rintro acc _ D6 ⟨rfl,rfl⟩ hl6 hD6
  have lk6:(aL ns i).take (aS nd.2).length=aL ns i:=List.take_of_length_le (by rw[hkids,aN,List.length_map];exact Nat.le_refl _)
  rw[lk6]
  obtain ⟨os,hos⟩:∃os,os=(aL ns i).map λ k=>f.lookup (hf H k):=⟨_,rfl⟩
  rw[←hos]
  have hval:val z os=some x0:=by rw[hos];exact hx0
  have hosl:os.length≤3:=by rw[hos,List.length_map,hkids,List.length_map];exact hk3
  have hnone:os.any (· ==none)=false:=by
   cases e:os.any (· ==none) with
   | false=>rfl
   | true=>rw[lZ e] at hval;cases hval
  obtain ⟨vs,hvs,hagg⟩:=lY (z:=z) hnone
  rw[hval] at hagg
  have hagg':x0=Wj z vs:=Option.some.inj hagg
  have hvl:vs.length≤3:=by rw[hvs,List.length_map] at hosl;exact hosl
  have hw6:=aF.put_same σ4 D6 (.t 0,.list (os.map cV))
  have E6:=E5.put (a:=D6) (y:=(.t 0,.list (os.map cV))) (.inl hD6)
  have aD6:=aF.put_new (.t 0,.list (os.map cV)) hD6 aD
  have aH6:=aF.put_new (.t 0,.list (os.map cV)) hD6 aH
  refine aE (eG (aT (eP (aC rfl rfl (nI (os:=os.map (Option.map λ v:Nat=>(v:Int))) (by rw[←iK];exact hw6) ⟨_,rfl,?_⟩)))))
  rw[sU,hnone,if_neg (by simp)]
  refine aP ?_
  have hwi:(σ4.put D6 (.t 0,.list (os.map cV))) D6=some (.t 0,.list (aS (vs.map λ v:Nat=>(v:Int)))):=by rw[hw6,hvs,vP]
  refine aE (aJ (aU (aY (iE (gB (aC i3 rfl (fS ?_)))))))
  refine Fv z (λ a σ7=>a= .int (x0:Int)∧bD qZ ((σ1.del R).del D) σ7∧σ7 D=some (tD,.idict (lO f))∧σ7 Hd=some (.t 23,.list (aS (aQ H)))) (λ hz=>?_) (λ hz=>?_) ?_
  ·refine bP (cE c.w 4 rfl) rfl aK (aA (aC rfl rfl (aB (vI hwi (λ y hy=>?_) (by rw[List.length_map];exact K2 hvl) ⟨?_,E6,aD6,aH6⟩))))
   ·obtain ⟨w,hw,rfl⟩:=List.mem_map.mp hy
    have hmem:some w∈os:=by rw[hvs];exact List.mem_map.mpr ⟨w,hw,rfl⟩
    rw[hos] at hmem
    obtain ⟨k,_,e⟩:=List.mem_map.mp hmem
    have:=v.le _ _ e
    exact Z8 this
   ·rw[qN,hagg',hz];rfl
  ·refine bP (cE c.w 2 rfl) rfl aK (aA (aU (aC rfl rfl (bV (.t 0) (aA (aY (aB ⟨by simp,λ D7 hD7=>?_⟩)))))))
   refine mF (.t 0) (aF.put_new _ hD7 hwi) (aF.put_same ..) (by rw[aN,List.length_map];simp;exact Mg hvl) λ D8 hD8=>aB ?_
   rw[show aS (vs.map λ v:Nat=>(v:Int))++[AV.int 0]=aS ((vs.map λ v:Nat=>(v:Int))++[0]) by rw[←dG];rfl]
   refine vK (aF.put_same ..) (by simp) λ m hm1 hm2=>⟨?_,(E6.put (.inl hD7)).put (.inl hD8),aF.put_new _ hD8 (aF.put_new _ hD7 aD6),aF.put_new _ hD8 (aF.put_new _ hD7 aH6)⟩
   have hm:m=((vs.foldr max 0:Nat):Int):=by
    refine Int.le_antisymm ?_ ?_
    ·rcases List.mem_append.mp hm1 with hx | hx
     ·obtain ⟨w,hw,rfl⟩:=List.mem_map.mp hx
      exact Int.ofNat_le.mpr (iM hw)
     ·rw[List.mem_singleton.mp hx];exact J0
    ·rcases hM vs with h0 | h0
     ·rw[h0];exact hm2 0 (by simp)
     ·exact hm2 _ (List.mem_append_left _ (List.mem_map.mpr ⟨_,h0,rfl⟩))
   rw[hm,hagg',hz];rfl
  rintro _ σ7 ⟨rfl,E7,a7,b7⟩
  refine eX (cP rfl rfl ?_)
  rw[show (1:Int)+(x0:Int)=((x0+1:Nat):Int) by exact Fl]
  have hupd:∀(loc8:aV),loc8 z170=some (.ref R)→loc8 z211=some (.ref Hd)→loc8 z219=some (.bool z)→loc8 z52=some (.ref D)→(∀u,f.lookup (hf H i)=some u→x0+1<u)→
    wZ R Hd D tD z ns (hf H) wt f0 σ σ1 (i+1) (loc8.put z212 (.bool true)) (σ7.put D (tD,.idict (lO (dZ f (hf H i) (x0+1))))):=λ loc8 l1 l2 l3 l4 hu=>by
   obtain ⟨_,v2,cs⟩:=Hr v W hi hri hx hxw hu rfl
   refine ⟨l1,l2,l3,l4,true,_,rfl,λ t a o hp e=>?_,aF.put_same ..,v2,nofun,λ _=>?_⟩
   ·rw[aF.put_ne _ _ (λ h=>?_)]
    ·exact E7 t a o hp e
    ·subst h
     unfold aF.del at e
     rw[if_pos rfl] at e;cases e
   ·cases g with
    | false=>rw[(q1 rfl).1] at cs⊢;exact cs
    | true=>have:=q2 rfl;exact Ja cs this
  have stay:∀(loc8:aV) (u:Nat),loc8 z170=some (.ref R)→loc8 z211=some (.ref Hd)→loc8 z219=some (.bool z)→loc8 z52=some (.ref D)→loc8 z212=some (.bool g)→f.lookup (hf H i)=some u→u≤x0+1→
    wZ R Hd D tD z ns (hf H) wt f0 σ σ1 (i+1) loc8 σ7:=λ loc8 u l1 l2 l3 l4 l5 hu hle'=>by
   refine ⟨l1,l2,l3,l4,g,f,l5,E7,a7,⟨v.jus,v.ok,v.le,λ n hn hnl=>?_⟩,λ hg=>⟨(q1 hg).1,λ n w hn hw=>?_⟩,q2⟩
   ·by_cases e:n=i
    ·subst e;exact ⟨u,Nat.le_trans hle' hxw,hu⟩
    ·exact v.cov n (by exact uR hn e) hnl
   ·by_cases e:n=i
    ·subst e
     rw[hx] at hw;cases hw
     exact ⟨u,hle',hu⟩
    ·exact (q1 hg).2 n w (by exact uR hn e) hw
  have hhm:∀{Ψ:AV→aF→Prop} {loc:aV} {p1 p2 p3:Pos},loc z211=some (.ref Hd)→loc z92=some (.int (i:Int))→Ψ (.int ((hf H i:Nat):Int)) σ7→WE (c.deep (bB iP K 526)) (bB iP K 526) loc σ7 (.Subscript (.Name z211 p1) (.Name z92 p2) p3) Ψ:=λ a b hΨ=>
   bF (cG (a:=K+1) a (.inl rfl) rfl (aC b rfl (bC b7 (nO (by exact Nat.lt_of_lt_of_eq ‹_› (Eq.symm ‹_›))) (by exact Sy hN hi) hΨ)))
  have lD:(lO f).length≤10000000:=by rw[mX];have:=v.ok.few;exact Fg hN this
  refine aE (eG (kF ?_))
  refine aT (hhm i2 rfl (cG (a:=K+2) i4 (.inl rfl) rfl (uL a7 ⟨_,rfl,?_⟩)))
  rw[kC]
  cases e:f.lookup (hf H i) with
  | none=>
   rw[if_neg (by decide),if_pos (by rfl)]
   refine aE (aJ (aZ (aA (aC rfl rfl (aA (fC (aB ⟨by simp,?_⟩)))))))
   refine cX (gU (cG (a:=K+2) i4 (.inl rfl) rfl (hhm i2 rfl (eS a7 lD (mW f (hf H i) (x0+1)) (cP rfl rfl (aP (aP ?_))))))) rfl
   exact hupd _ i1 i2 i3 i4 λ u hu=>by rw[e] at hu;cases hu
  | some u=>
   rw[if_pos (by rfl)]
   refine aT (aC rfl rfl (bF (cG (a:=K+2) i4 (.inl rfl) rfl (hhm i2 rfl (fN (x:=.int (u:Int)) a7 (by rw[kC,e];rfl) (uM ⟨_,rfl,?_⟩))))))
   by_cases hlt:x0+1<u
   ·rw[decide_eq_true (by exact Int.ofNat_le.mpr ‹_›),if_neg (by decide),if_pos rfl]
    refine aE (aJ (aZ (aA (aC rfl rfl (aA (fC (aB ⟨by simp,?_⟩)))))))
    refine cX (gU (cG (a:=K+2) i4 (.inl rfl) rfl (hhm i2 rfl (eS a7 lD (mW f (hf H i) (x0+1)) (cP rfl rfl (aP (aP ?_))))))) rfl
    exact hupd _ i1 i2 i3 i4 λ w hw=>by rw[e] at hw;cases hw;exact hlt
   ·rw[decide_eq_false (by exact R4 hlt),if_pos (by rfl)]
    exact aP (aP (stay _ u i1 i2 i3 i4 i5 e (by exact Nat.le_of_not_lt ‹_›)))
 ·rintro loc' σ4 ⟨i1,i2,i3,i4,g,f,i5,E5,aD,v,q1,q2⟩ hRn
  rw[hl] at v q1
  have E6:=E1.back2 hD E5 hR1
  have hDR:D≠R:=gA hD1 hR1 htD.1
  have aD':(σ4.put R (.t 20,.list (bQ ns))) D=some (tD,.idict (lO f)):=by rw[aF.put_ne _ _ hDR];exact aD
  cases g with
  | false=>
   obtain ⟨rfl,hs⟩:=q1 rfl
   exact aP ⟨0,Nat.succ_pos _,i1,i2,i3,i4,false,f,i5,E6,aD',⟨v.jus,v.ok,v.le,λ n hn=>absurd hn (Nat.not_lt_zero _)⟩,λ _=>⟨λ n x hn hx=>hs n x hn hx,v⟩,.inl v,rfl⟩
  | true=>exact aP ⟨jC f ns.length+1,by have:=q2 rfl;show _<(if true=true then jC f0 ns.length+1 else 0);rw[if_pos rfl];exact Ju this,i1,i2,i3,i4,true,f,i5,E6,aD',⟨v.jus,v.ok,v.le,λ n hn=>absurd hn (Nat.not_lt_zero _)⟩,nofun,.inl v,rfl⟩
end
noncomputable def Cp (t:Tg):Bool:=t== .t 0
section
variable {c:Cx} {σ:aF} {Φ:AV→aF→Prop} {k:Nat} {L:HL} {M:HM} {a:KA} {z:Bool} {V:Addr} {l:Dt}
theorem lK (hc:5≤c.n) (q:aI L M σ) (o:gH M) (r:cL k L a z V l σ) {R Hd D:Addr} {tD:Tg} {H:List Nat} {f:Dt} (htD:tD≠ .t 23) (hR:σ R=some (.t 20,.list (bQ M.nodes))) (hH:σ Hd=some (.t 23,.list (aS (aQ H)))) (hHl:H.length=M.up.length)
  (hD:σ D=some (tD,.idict (lO f))) (heq:∀n,n<M.up.length→l.lookup (root M.up n)=f.lookup (hf H n)) (h:∀σ',bD Cp σ σ'→Φ (.bool true) σ'):gG c σ (.ref 538) [.ref a.X,.ref R,.ref Hd,.ref D] Φ:=by
 have hfew:=o.few
 have hl:(bQ M.nodes).length=M.up.length:=(List.length_map ..).trans o.nodes
 refine (tK c.w).call (c1 hc) rfl λ K=>aE (aR (gT (bW (cl:=[(z225,K+1)]) (bY.of (by kernel_rfl) rfl (λ p hp=>by rw[List.mem_singleton] at hp;subst hp;exact dP rfl) (List.pairwise_singleton _ _)) (.t 0) (bP (cE c.w 9 rfl) rfl bN (aA (bP (cZ c.w) rfl aK (aA (aC rfl rfl (aB (bK hR (by exact Sv hfew hl) (aB ?_)))))))))))
 rw[hl]
 refine jD (.t 0) λ Rg hRg=>?_
 refine ⟨dD 0 (M.up.length:Nat),_,lJ (aF.put_same ..) (by decide) (by decide) (by exact Int.natCast_nonneg _) (by exact Z0 hfew) rfl,by rw[cU];exact Z1 hfew,λ i acc σ'=>σ'=σ.put Rg (.t 0,.range 0 (M.up.length:Nat))∧acc=((List.range i).map λ n=>l.lookup (root M.up n)).map cV,⟨⟨rfl,rfl⟩,?_⟩,?_⟩
 ·rintro C i y acc _ hy ⟨rfl,rfl⟩
  obtain ⟨hi,rfl⟩:=gZ hy
  have hi':i<M.up.length:=by exact Fj hi
  have r1:=r.new hRg (.t 0,.range 0 (M.up.length:Nat))
  have q1:=q.new hRg (.t 0,.range 0 (M.up.length:Nat))
  have e0:(0:Int)+(i:Int)=(i:Int):=by exact J1
  rw[e0]
  refine bG r1.x r1.d rfl (gX (fU c.w) 1 rfl) (dH (a:=K+1) rfl (.inl rfl) rfl) (aA (aC (if_pos rfl) rfl (aB ?_)))
  refine Ec (c:=c.deep _) (cn hc) q1 o r1 hi' ⟨rfl,?_⟩
  rw[List.range_succ,List.map_append,List.map_append];rfl
 rintro acc _ D1 ⟨rfl,rfl⟩ hl1 hD1
 have nn:((M.up.length:Nat)-(0:Int)).toNat=M.up.length:=by exact K1
 rw[cU,nn]
 have h1:=aF.put_new (.t 0,.list (((List.range M.up.length).map λ n=>l.lookup (root M.up n)).map cV)) hD1 (aF.put_new (.t 0,.range 0 (M.up.length:Nat)) hRg hH)
 have h2:=aF.put_new (.t 0,.list (((List.range M.up.length).map λ n=>l.lookup (root M.up n)).map cV)) hD1 (aF.put_new (.t 0,.range 0 (M.up.length:Nat)) hRg hD)
 have h3:=aF.put_same (σ.put Rg (.t 0,.range 0 (M.up.length:Nat))) D1 (.t 0,.list (((List.range M.up.length).map λ n=>l.lookup (root M.up n)).map cV))
 have E1:bD Cp σ ((σ.put Rg (.t 0,.range 0 (M.up.length:Nat))).put D1 (.t 0,.list (((List.range M.up.length).map λ n=>l.lookup (root M.up n)).map cV))):=((bD.refl σ).put (.inl hRg)).put (.inl hD1)
 obtain ⟨σ1,hσ1⟩:∃σ1,σ1=(σ.put Rg (.t 0,.range 0 (M.up.length:Nat))).put D1 (.t 0,.list (((List.range M.up.length).map λ n=>l.lookup (root M.up n)).map cV)):=⟨_,rfl⟩
 rw[←hσ1] at h1 h2 h3 E1⊢
 refine wW (cl:=[(z214,K+2)]) (bY.of (by kernel_rfl) rfl (λ p hp=>by rw[List.mem_singleton] at hp;subst hp;exact dP rfl) (List.pairwise_singleton _ _)) (.t 0) (aC rfl rfl ?_)
 have lH:(aS (aQ H)).length=H.length:=by rw[aN,dL]
 have hDH:D≠Hd:=gA h2 h1 htD
 refine ⟨_,_,Hd,.t 23,_,rH rfl h1,by exact P3 hHl hfew lH,λ j acc σ''=>σ1.del Hd=σ''∧acc=((H.take j).map λ x=>f.lookup x).map cV,⟨⟨rfl,rfl⟩,?_⟩,?_⟩
 ·rintro C j y acc _ hy ⟨rfl,rfl⟩
  rw[aS,aQ,List.getElem?_map,List.getElem?_map] at hy
  obtain ⟨y1,hy1,rfl⟩:=Option.map_eq_some_iff.mp hy
  obtain ⟨y2,hy2,rfl⟩:=Option.map_eq_some_iff.mp hy1
  have h2':(σ1.del Hd) D=some (tD,.idict (lO f)):=by unfold aF.del;rw[if_neg hDH];exact h2
  refine cO (oS h2') (dH (a:=K+2) rfl (.inl rfl) rfl) (aA (aC (if_pos rfl) rfl (aB (iJ h2' ⟨rfl,?_⟩))))
  rw[gQ,List.take_add_one,hy2,List.map_append,List.map_append];rfl
 rintro acc _ D2 ⟨rfl,rfl⟩ hl2 hD2 hHn hne
 rw[lH,List.take_length]
 have g1:((σ1.del Hd).put D2 (.t 0,.list ((H.map λ x=>f.lookup x).map cV))).put Hd (.t 23,.list (aS (aQ H))) D1=some (.t 0,.list (((List.range M.up.length).map λ n=>l.lookup (root M.up n)).map cV)):=by
  have hD1H:D1≠Hd:=gA h3 h1 (dK rfl)
  rw[aF.put_ne _ _ hD1H]
  refine aF.put_new _ hD2 ?_
  unfold aF.del;rw[if_neg hD1H];exact h3
 have g2:((σ1.del Hd).put D2 (.t 0,.list ((H.map λ x=>f.lookup x).map cV))).put Hd (.t 23,.list (aS (aQ H))) D2=some (.t 0,.list ((H.map λ x=>f.lookup x).map cV)):=by
  rw[aF.put_ne _ _ (Ne.symm hne)];exact aF.put_same ..
 refine Ep (xs:=((List.range M.up.length).map λ n=>l.lookup (root M.up n)).map (Option.map λ v:Nat=>(v:Int))) (ys:=(H.map λ x=>f.lookup x).map (Option.map λ v:Nat=>(v:Int))) (by rw[←iK];exact g1) (by rw[←iK];exact g2) ⟨_,rfl,?_⟩
 have es:((List.range M.up.length).map λ n=>l.lookup (root M.up n))=H.map λ x=>f.lookup x:=by
  refine List.ext_getElem? λ n=>?_
  rw[List.getElem?_map,List.getElem?_map]
  by_cases hn:n<M.up.length
  ·rw[List.getElem?_range hn,vZ (show n<H.length by exact Nat.lt_of_lt_of_eq ‹_› (Eq.symm ‹_›))]
   exact congrArg some (heq n hn)
  ·rw[List.getElem?_eq_none (by rw[List.length_range];exact Ff hn),List.getElem?_eq_none (by exact Pw hHl hn)]
   rfl
 rw[es,beq_self_eq_true]
 refine h _ λ t b ob hp e=>?_
 have e1:=E1 t b ob hp e
 by_cases hb:b=Hd
 ·subst hb;rw[h1] at e1;cases e1;exact aF.put_same ..
 ·rw[aF.put_ne _ _ hb]
  refine aF.put_new _ hD2 ?_
  unfold aF.del;rw[if_neg hb];exact e1
end
theorem Sgl.none:Sgl HM.empty 0 where
 few:=Nat.zero_le _
 up:=rfl
 nodes:=rfl
 lots:=rfl
 lot:=λ i hi=>absurd hi (Nat.not_lt_zero _)
 mg:=rfl
 ed:=rfl
 fo:=rfl
 wa:=rfl
 kids:=λ i n h=>by cases h
 keys:=rfl
 tot:=Nat.zero_le _
 kl:=Nat.zero_le _
 k1:=λ i n h=>by cases h
 k2:=λ k m h=>by cases h
 us:=λ i n h=>by cases h
 ur:=λ i hi=>absurd hi (Nat.not_lt_zero _)
 wl:=rfl
 dl:=rfl
 ww:=λ i n h=>by cases h
structure PF (M:HM) (N i s:Nat):Prop where
 two:2≤N
 few:N≤2+i
 sl:s<N
 w:∀x∈M.weights,1≤x∧x≤1+i
 tot:tot M.above≤i
 ops:∀n∈M.nodes,n.1≠z223
 w1:M.weights.getD 1 0=1
structure PG (M:HM) (N j s:Nat):Prop where
 few:N≤22+j
 sl:s<N
 w:∀x∈M.weights,1≤x∧x≤511
 tot:tot M.above≤20+2*j
 lo:M.weights.getD s 0+1≤((2^(j+1):Nat):Int)
 ops:j=0→∀n∈M.nodes,n.1≠z223
 top:0<j→s+1=N
theorem mR {l:List Int} {k:Nat} (h:k<l.length):l.getD k 0∈l:=by
 rw[List.getD_eq_getElem?_getD,List.getElem?_eq_getElem h];exact List.getElem_mem h
section
variable {M M':HM} {N i j s:Nat}
theorem PF.old (p:PF M N i s):PF M N (i+1) (N-1):=
 ⟨p.two,Nat.le_succ_of_le p.few,by have:=p.two;exact BF this,λ x hx=>⟨(p.w x hx).1,by have:=(p.w x hx).2;exact Iw this⟩,Nat.le_succ_of_le p.tot,p.ops,p.w1⟩
theorem PF.new (p:PF M N i s) (hl:M.weights.length=N) (h1:M'.nodes=M.nodes++[(z222,[(s:Int)])]) (h2:M'.weights=M.weights++[1+([(s:Int)].map λ k=>M.weights.getD k.toNat 0).sum]) (h3:Mine.tot M'.above≤Mine.tot M.above+1):PF M' (N+1) (i+1) N:=by
 have hs:=p.w _ (mR (hl.symm▸p.sl))
 have e:([(s:Int)].map λ k=>M.weights.getD k.toNat 0).sum=M.weights.getD s 0:=Int.add_zero _
 rw[e] at h2
 refine ⟨Nat.le_succ_of_le p.two,Nat.succ_le_succ p.few,Nat.lt_succ_self _,λ x hx=>?_,Nat.le_trans h3 (Nat.succ_le_succ p.tot),λ n hn=>?_,?_⟩
 ·rw[h2] at hx
  rcases List.mem_append.mp hx with hx | hx
  ·exact ⟨(p.w x hx).1,by have:=(p.w x hx).2;exact Iw this⟩
  ·rw[List.mem_singleton.mp hx];exact Mz hs
 ·rw[h1] at hn
  rcases List.mem_append.mp hn with hn | hn
  ·exact p.ops n hn
  ·rw[List.mem_singleton.mp hn];exact λ e=>absurd (show z222=z223 from e) (by decide)
 ·rw[h2,yL (by have:=p.two;exact Tk hl this)];exact p.w1
theorem PF.pg (p:PF M N i s) (hi:i≤20):PG M N 0 1:=
 ⟨by have:=p.few;exact S0 hi this,p.two,λ x hx=>⟨(p.w x hx).1,by have:=(p.w x hx).2;exact U9 hi this⟩,Nat.le_trans p.tot hi,by rw[p.w1];decide,λ _=>p.ops,nofun⟩
theorem PG.new (p:PG M N j s) (hj:j<8) (hl:M.weights.length=N) (h2:M'.weights=M.weights++[1+([(s:Int),(s:Int)].map λ k=>M.weights.getD k.toNat 0).sum]) (h3:Mine.tot M'.above≤Mine.tot M.above+2):PG M' (N+1) (j+1) N:=by
 have hs:=p.w _ (mR (hl.symm▸p.sl))
 have lo:=p.lo
 have e:([(s:Int),(s:Int)].map λ k=>M.weights.getD k.toNat 0).sum=M.weights.getD s 0+(M.weights.getD s 0+0):=rfl
 rw[e] at h2
 have e2:2^(j+1+1)=2^(j+1)*2:=Nat.pow_succ ..
 have e3:2^(j+1)≤2^8:=Nat.pow_le_pow_right (by decide) hj
 have e4:(2:Nat)^8=256:=rfl
 refine ⟨Nat.succ_le_succ p.few,Nat.lt_succ_self _,λ x hx=>?_,by have:=p.tot;exact Pi h3 this,?_,nofun,λ _=>rfl⟩
 ·rw[h2] at hx
  rcases List.mem_append.mp hx with hx | hx
  ·exact p.w x hx
  ·rw[List.mem_singleton.mp hx];exact My hs lo e3
 ·rw[h2,List.getD_eq_getElem?_getD,List.getElem?_append_right (by exact Nat.le_of_eq ‹_›),hl,Nat.sub_self]
  show 1+_+1≤_
  omega
theorem PG.no (p:PG M N j s) (g:Sgl M N) {x:Nat} (h:M.nodes[x]? =some (z223,[(s:Int),(s:Int)])):False:=by
 by_cases hj:j=0
 ·exact p.ops hj _ (List.mem_of_getElem? h) rfl
 ·have h1:=p.top (by exact Nat.pos_of_ne_zero ‹_›)
  have h2:=(g.kids x _ h).2 s List.mem_cons_self
  have h3:=(List.getElem?_eq_some_iff.mp h).1
  rw[g.nodes] at h3
  exact Q9 h1 h2 h3
end
inductive Ll (Ch R:Addr) (L:HL) (rest:List Int) (b:Nat) (P:HM→Nat→Nat→Prop) (loc:aV) (σ:aF):Prop
 | mk (c1:loc z46=some (.ref (L 1))) (c2:loc z170=some (.ref R)) (c3:loc z168=some (.ref Ch)) (M:HM) (N:Nat) (s:Nat) (c4:loc z174=some (.int (s:Nat))) (c5:aI L M σ) (c6:Sgl M N) (c7:σ R=some (.t 20,.list (bQ M.nodes))) (c8:σ Ch=some (.t 21,.list (aS ((b:Int)::rest)))) (c9:P M N s):Ll Ch R L rest b P loc σ
structure G3 (M:HM) (N:Nat):Prop extends Sgl M N where
 one:1≤N
 nf:N≤31
 w:∀x∈M.weights,1≤x∧x≤1534
 t39:Mine.tot M.above≤39
section
variable {c:Cx} {σ:aF} {Φ:AV→aF→Prop}
theorem eW {ns:iT}:(bQ ns).length=ns.length:=List.length_map ..
theorem Gi (hc:8≤c.n) {Ch:Addr} {rest:List Int} {b:Nat} (hC:σ Ch=some (.t 21,.list (aS ((b:Int)::rest)))) (hb:b≤900) (hr:rest.length≤1000)
  (h:∀σ' L M N R b',b'≤b+10→aI L M σ'→G3 M N→σ' R=some (.t 20,.list (bQ M.nodes))→σ' Ch=some (.t 21,.list (aS ((b':Int)::rest)))→Φ (.tup [.ref (L 1),.ref R]) σ'):
  gG c σ (.ref 533) [.ref Ch] Φ:=by
 refine (yT c.w).call (c1 hc) rfl λ K=>aE (eI rfl rfl rfl (λ _ hm=>nomatch hm) (λ _ hm=>nomatch hm) (aZ (aA (fF (lV 2 rfl) rfl (aB ?_)))))
 refine Ga (c:=c.deep _) (cn hc) λ σ1 L o1 q1=>?_
 refine aA (bV (.t 20) (aB ⟨by simp,λ R hR=>aB ⟨by simp,_,_,rfl,?_⟩⟩))
 have a1:=aF.put_new (.t 20,.list (bQ [])) hR (o1 _ _ hC)
 have q2:=q1.new hR (.t 20,.list (bQ []))
 refine aE (bA (fF (lV 8 rfl) rfl (aA (aC rfl rfl (aA (aC rfl rfl (aA (fB (aA (aZ (aB ⟨by simp,aB ?_⟩)))))))))))
 refine fL (c:=c.deep _) (ks:=[]) (cn hc) q2 Sgl.none (by decide) (λ x hx=>by cases hx) (aF.put_same ..) (by kernel_rfl) (by decide) (by decide) (λ k hk=>by cases hk) (by decide) (λ i hi=>absurd hi (Nat.not_lt_zero _)) λ σ2 M2 _ E2 q3 g2 n2 w2 t2 r2=>?_
 have a2:=E2 _ _ _ rfl a1
 refine aE (bA (fF (lV 8 rfl) rfl (aA (aC rfl rfl (aA (aC rfl rfl (aA (fB (aA (aZ (aB ⟨by simp,aB ?_⟩)))))))))))
 have w2':M2.weights=[1]:=w2
 have n2':M2.nodes=[(z116,[])]:=n2
 have t2':tot M2.above≤0:=t2
 refine fL (c:=c.deep _) (ks:=[]) (cn hc) q3 g2 (by decide) (λ x hx=>by rw[w2',List.mem_singleton] at hx;subst hx;decide) r2 (by kernel_rfl) (by decide) (by decide) (λ k hk=>by cases hk) (by rw[List.length_nil];exact AM t2') (λ i hi e=>by
  rw[n2'] at e
  obtain rfl:i=0:=by exact AZ hi
  cases e) λ σ3 M3 _ E3 q4 g3 n3 w3 t3 r3=>?_
 have a3:=E3 _ _ _ rfl a2
 rw[n2'] at n3
 rw[w2'] at w3
 have w3':M3.weights=[1,1]:=w3
 have n3':M3.nodes=[(z116,[]),(z118,[])]:=n3
 have t3':tot M3.above≤tot M2.above:=t3
 have p3:PF M3 2 0 0:=⟨Nat.le_refl _,Nat.le_refl _,by decide,λ x hx=>by
   rw[w3',List.mem_cons,List.mem_singleton] at hx
   rcases hx with rfl | rfl<;>decide,Nat.le_trans t3' t2',λ n hn=>by
   rw[n3',List.mem_cons,List.mem_singleton] at hn
   rcases hn with rfl | rfl
   ·exact λ e=>absurd (show z116=z223 from e) (by decide)
   ·exact λ e=>absurd (show z118=z223 from e) (by decide),by rw[w3'];rfl⟩
 refine aE (aJ (aY (bX rfl rfl ?_)))
 refine aE (nA rfl (aU (aY (fF (lV 7 rfl) rfl (aA (aC rfl rfl (aA (aY (aB ?_)))))))))
 refine gJ (c:=c.deep _) (m:=11) (cn hc) a3 (by exact Nat.le_trans ‹_› (Nat.le_of_ble_eq_true rfl)) hr (by decide) λ d hd=>eX ?_
 have a4:=aF.put_same σ3 Ch (.t 21,.list (aS (((b+1:Nat):Int)::rest)))
 have q5:=q4.putO (y:=.list (aS (((b+1:Nat):Int)::rest))) a3 rfl
 have hRC:R≠Ch:=gA r3 a3 (dK rfl)
 have r5:=(aF.put_ne σ3 (.t 21,.list (aS (((b+1:Nat):Int)::rest))) hRC).trans r3
 refine ⟨10+d,rfl,by exact AY hd,λ i=>Ll Ch R L rest (b+1) λ M N s=>PF M N i s,⟨rfl,rfl,rfl,M3,2,0,rfl,q5,g3,r5,a4,p3⟩,?_,?_⟩
 ·rintro i loc σ4 hi ⟨l1,l2,l3,M,N,s,l4,q,g,r,a,p⟩
  have hi':i<20:=by exact Ul hd hi
  have few:=p.few
  have hs:=p.sl
  have hwl:=g.wl
  refine bX rfl rfl ?_
  refine aE (bA (fF (lV 8 rfl) rfl (aA (aC l1 rfl (aA (aC l2 rfl (aA (fB (aA (aZ (aA (aC l4 rfl (aB ⟨by simp,aB ?_⟩)))))))))))))
  refine fL (c:=c.deep _) (ks:=[(s:Int)]) (cn hc) q g (by exact Uh hi' few) (λ x hx=>by have:=p.w x hx;exact Vb hi' this) r (by kernel_rfl) (by decide) (by simp) (λ k hk=>by rw[List.mem_singleton.mp hk];exact xX hs) (by rw[List.length_singleton];have:=p.tot;exact Ug hi' this) (λ x hx e=>?_) λ σ5 M5 _ E5 q' g' n5 w5 t5 r'=>?_
  ·refine aE (aJ (aU (bP (cZ c.w) rfl aK (aA (aC l2 rfl (aB (bK r (by rw[eW,g.nodes];exact Ui hi' few) (aY (nH (bX rfl rfl ?_))))))))))
   rw[eW,g.nodes,show ((N:Int)-1)=((N-1:Nat):Int) by exact Tw hx]
   exact aP ⟨l1,l2,l3,M,N,N-1,rfl,q,g,r,a,p.old⟩
  ·refine aE (aJ (aU (bP (cZ c.w) rfl aK (aA (aC l2 rfl (aB (bK r' (by rw[eW,g'.nodes];exact Uj hi' few) (aY (nH (bX rfl rfl ?_))))))))))
   rw[eW,g'.nodes,show (((N+1:Nat):Int)-1)=((N:Nat):Int) by exact Ey]
   exact aP ⟨l1,l2,l3,M5,N+1,N,rfl,q',g',r',E5 _ _ _ rfl a,p.new hwl n5 w5 t5⟩
 rintro loc σ4 ⟨l1,l2,l3,M,N,s,l4,q,g,r,a,p⟩
 refine aE (aJ (aY (bX rfl rfl ?_)))
 refine aE (nA rfl (aU (aY (fF (lV 7 rfl) rfl (aA (aC l3 rfl (aA (aY (aB ?_)))))))))
 refine gJ (c:=c.deep _) (m:=6) (cn hc) a (by exact Nat.lt_of_le_of_lt ‹_› (Nat.le_of_ble_eq_true rfl)) hr (by decide) λ d2 hd2=>eX ?_
 have a4:=aF.put_same σ4 Ch (.t 21,.list (aS (((b+1+1:Nat):Int)::rest)))
 have q6:=q.putO (y:=.list (aS (((b+1+1:Nat):Int)::rest))) a rfl
 have r6:=(aF.put_ne σ4 (.t 21,.list (aS (((b+1+1:Nat):Int)::rest))) hRC).trans r
 refine ⟨3+d2,rfl,by exact AP hd2,λ j=>Ll Ch R L rest (b+1+1) λ M N s=>PG M N j s,⟨l1,l2,l3,M,N,1,rfl,q6,g,r6,a4,p.pg (by exact AX hd)⟩,?_,?_⟩
 ·rintro j loc σ4 hj ⟨l1,l2,l3,M,N,s,l4,q,g,r,a,p⟩
  have hj':j<8:=by exact Ub hd2 hj
  have few:=p.few
  have hs:=p.sl
  have hwl:=g.wl
  refine bX rfl rfl ?_
  refine aE (bA (fF (lV 8 rfl) rfl (aA (aC l1 rfl (aA (aC l2 rfl (aA (fB (aA (aZ (aA (aC l4 rfl (aA (aC l4 rfl (aB ⟨by simp,aB ?_⟩)))))))))))))))
  refine fL (c:=c.deep _) (ks:=[(s:Int),(s:Int)]) (cn hc) q g (by exact T0 hj' few) (λ x hx=>by have:=p.w x hx;exact Uo this) r (by kernel_rfl) (by decide) (by simp) (λ k hk=>by
   rcases List.mem_cons.mp hk with rfl | hk
   ·exact xX hs
   ·rw[List.mem_singleton.mp hk];exact xX hs) (by show _+2≤40;have:=p.tot;exact T2 hj' this) (λ x hx e=>(p.no g e).elim) λ σ5 M5 _ E5 q' g' n5 w5 t5 r'=>?_
  refine aE (aJ (aU (bP (cZ c.w) rfl aK (aA (aC l2 rfl (aB (bK r' (by rw[eW,g'.nodes];exact T1 hj' few) (aY (nH (bX rfl rfl ?_))))))))))
  rw[eW,g'.nodes,show (((N+1:Nat):Int)-1)=((N:Nat):Int) by exact Ey]
  exact aP ⟨l1,l2,l3,M5,N+1,N,rfl,q',g',r',E5 _ _ _ rfl a,p.new hj' hwl w5 t5⟩
 rintro loc σ4 ⟨l1,l2,l3,M,N,s,l4,q,g,r,a,p⟩
 have few:=p.few
 have hs:=p.sl
 have hNl:(bQ M.nodes).length=N:=eW.trans g.nodes
 refine aE (aJ (fF (lV 7 rfl) rfl (aA (aC l3 rfl (aA (bP (cZ c.w) rfl aK (aA (aC l2 rfl (aB (bK r (by exact Fa hd2 few hNl) (aB ?_)))))))))))
 rw[hNl]
 refine gJ (c:=c.deep _) (m:=N) (cn hc) a (by exact Zt hb) hr (by exact Nat.zero_lt_of_lt ‹_›) λ x1 hx1=>bX rfl rfl ?_
 have q1:=q.putO (y:=.list (aS (((b+1+1+1:Nat):Int)::rest))) a rfl
 have r1:=(aF.put_ne σ4 (.t 21,.list (aS (((b+1+1+1:Nat):Int)::rest))) hRC).trans r
 have a1:=aF.put_same σ4 Ch (.t 21,.list (aS (((b+1+1+1:Nat):Int)::rest)))
 generalize σ4.put Ch (.t 21,.list (aS (((b+1+1+1:Nat):Int)::rest)))=σ5 at q1 r1 a1⊢
 refine aE (aJ (fF (lV 7 rfl) rfl (aA (aC l3 rfl (aA (bP (cZ c.w) rfl aK (aA (aC l2 rfl (aB (bK r1 (by exact Fa hd2 few hNl) (aB ?_)))))))))))
 rw[hNl]
 refine gJ (c:=c.deep _) (m:=N) (cn hc) a1 (by exact Zu hb) hr (by exact Nat.zero_lt_of_lt ‹_›) λ x2 hx2=>bX rfl rfl ?_
 have q2:=q1.putO (y:=.list (aS (((b+1+1+1+1:Nat):Int)::rest))) a1 rfl
 have r2:=(aF.put_ne σ5 (.t 21,.list (aS (((b+1+1+1+1:Nat):Int)::rest))) hRC).trans r1
 have a2:=aF.put_same σ5 Ch (.t 21,.list (aS (((b+1+1+1+1:Nat):Int)::rest)))
 generalize σ5.put Ch (.t 21,.list (aS (((b+1+1+1+1:Nat):Int)::rest)))=σ6 at q2 r2 a2⊢
 refine aE (bA (fF (lV 8 rfl) rfl (aA (aC l1 rfl (aA (aC l2 rfl (aA (fB (aA (aZ (aA (aC rfl rfl (aA (aC rfl rfl (aA (fF (lV 7 rfl) rfl (aA (aC l3 rfl (aA (bP (cZ c.w) rfl aK (aA (aC l2 rfl (aB (bK r2 (by exact Fa hd2 few hNl) (aB ?_)))))))))))))))))))))))))
 rw[hNl]
 refine gJ (c:=c.deep _) (m:=N) (cn hc) a2 (by exact Zv hb) hr (by exact Nat.zero_lt_of_lt ‹_›) λ x3 hx3=>aB ⟨by simp,aB ?_⟩
 have q3:=q2.putO (y:=.list (aS (((b+1+1+1+1+1:Nat):Int)::rest))) a2 rfl
 have r3:=(aF.put_ne σ6 (.t 21,.list (aS (((b+1+1+1+1+1:Nat):Int)::rest))) hRC).trans r2
 have a3:=aF.put_same σ6 Ch (.t 21,.list (aS (((b+1+1+1+1+1:Nat):Int)::rest)))
 generalize σ6.put Ch (.t 21,.list (aS (((b+1+1+1+1+1:Nat):Int)::rest)))=σ7 at q3 r3 a3⊢
 have hwl:=g.wl
 have hw:∀x:Nat,x<N→1≤M.weights.getD x 0∧M.weights.getD x 0≤511:=λ x hx=>p.w _ (mR (by exact Nat.lt_of_lt_of_eq ‹_› (Eq.symm ‹_›)))
 have ptot:=p.tot
 refine fL (c:=c.deep _) (ks:=[(x1:Int),(x2:Int),(x3:Int)]) (cn hc) q3 g (by exact T6 hd2 few) (λ x hx=>by have:=p.w x hx;exact Uo this) r3 (by kernel_rfl) (by decide) (by simp) (λ k hk=>by
  simp only[List.mem_cons,List.not_mem_nil,or_false] at hk
  exact N4 hx1 hx2 hx3 hk) (by show _+3≤40;exact Ua hd2 ptot) (λ x hx e=>?_) λ σ8 M8 _ E8 q' g' n8 w8 t8 r'=>?_
 ·exact aE (aR (aZ (aA (aC l1 rfl (aA (aC l2 rfl (aB ⟨by simp,_,rfl,h _ L M N R _ (by exact Jz) q3 ⟨g,by exact Nat.zero_lt_of_lt ‹_›,by exact T7 hd2 few,λ x hx=>by have:=p.w x hx;exact Ue this,by exact T9 hd2 ptot⟩ r3 a3⟩)))))))
 ·refine aE (aR (aZ (aA (aC l1 rfl (aA (aC l2 rfl (aB ⟨by simp,_,rfl,h _ L M8 (N+1) R _ (by exact Jz) q' ⟨g',by exact Nat.le_add_left _ _,by exact T8 hd2 few,λ x hx=>?_,by have:tot M8.above≤tot M.above+3:=t8;exact Qr hd2 ptot this⟩ r' (E8 _ _ _ rfl a3)⟩)))))))
  rw[w8] at hx
  rcases List.mem_append.mp hx with hx | hx
  ·have:=p.w x hx;exact Ue this
  ·have h1:=hw x1 hx1
   have h2:=hw x2 hx2
   have h3:=hw x3 hx3
   have e:(([(x1:Int),(x2:Int),(x3:Int)].map λ k=>M.weights.getD k.toNat 0).sum)=M.weights.getD x1 0+(M.weights.getD x2 0+(M.weights.getD x3 0+0)):=rfl
   rw[List.mem_singleton.mp hx,e];exact Rj h1 h2 h3
end
section
variable {ns ns0:iT} {z:Bool} {r r' r0 wt:Nat→Nat} {l l0 lB:Dt}
theorem eB.none (h:∀x,l.lookup x=none) (hi:∀a,a<ns.length→r a=a):eB ns z r wt l where
 jus:=λ c v e=>by have:l.lookup c=some v:=e;rw[h] at this;cases this
 key:=λ i v e=>by rw[h] at e;cases e
 w:=λ n v _ e=>by rw[h] at e;cases e
 one:=λ n m hn hm _ e=>by rw[hi n hn,hi m hm] at e;exact e
theorem xE.none {done:Nat→Prop} (b:xE r [] l done) (x:Nat):l.lookup x=none:=by
 cases e:l.lookup x with
 | none=>rfl
 | some u=>obtain ⟨c,h,_⟩:=b.src x u e;cases h
theorem eB.beg (g:eB ns z r wt l) (b:xE r l lB λ _=>True):eB ns z r wt lB:=by
 have e:∀x,lB.lookup x=l.lookup x:=λ x=>by
  have s:∀u,lB.lookup x=some u→l.lookup x=some u:=λ u hu=>by
   obtain ⟨c,h1,rfl⟩:=b.src x u hu
   rw[(g.key c u h1).2];exact h1
  cases e1:l.lookup x with
  | some v=>
   obtain ⟨u,_,h2⟩:=b.low x v trivial e1
   rw[(g.key x v e1).2] at h2
   rw[h2,←e1,s u h2]
  | none=>cases e2:lB.lookup x with
   | none=>rfl
   | some u=>rw[s u e2] at e1;cases e1
 have e':lk lB=lk l:=funext e
 exact ⟨e'▸g.jus,λ i v h=>g.key i v (e i▸h),λ n v h1 h2=>g.w n v h1 (e (r n)▸h2),λ n m h1 h2 h3 h4=>g.one n m h1 h2 (e (r n)▸h3) h4⟩
theorem eB.merged (g:eB ns0 z r0 wt l0) (h0:∀a,a<ns0.length→r0 a=a) (hcov:∀n,n<ns0.length→∃v,l0.lookup n=some v) (hns:∀i,i<ns0.length→aL ns i=aL ns0 i) (hl:ns0.length≤ns.length) (hl1:ns.length≤ns0.length+1)
  (hk:∀n k,n<ns0.length→k∈aL ns0 n→k<ns0.length) (hrr:∀a,a<ns.length→r a≤a∧r (r a)=r a) (hw:∀n,wt n≤1540) (hwN:∀n,ns0.length≤n→wt n=1540) (b:xE r l0 lB λ _=>True):eB ns z r wt lB where
 jus:=λ c v hc=>by
  obtain ⟨c0,h1,h2⟩:=b.src c v hc
  obtain ⟨n,x,a1,a2,a3,a4⟩:=g.jus c0 v h1
  rw[h0 n a1] at a2
  subst a2
  obtain ⟨y,h3,rfl⟩:=jU a3
  have e:((aL ns0 n).map λ k=>lk l0 (r0 k))=(aL ns0 n).map (lk l0):=List.map_congr_left λ k hk'=>by show lk l0 (r0 k)=_;rw[h0 k (hk n k a1 hk')]
  rw[e] at h3
  obtain ⟨u,hu,hv⟩:=Ed (f:=lk l0) (g:=λ k=>lk lB (r k)) (λ k v hv=>b.low k v trivial hv) h3
  exact ⟨n,u+1,by exact Nat.lt_of_lt_of_le ‹_› ‹_›,h2,by unfold nB;rw[hns n a1,hv];rfl,by exact Nat.lt_of_le_of_lt ‹_› ‹_›⟩
 key:=λ i v hi=>by
  obtain ⟨c0,h1,rfl⟩:=b.src i v hi
  have h2:=(g.key c0 v h1).1
  obtain ⟨h3,h4⟩:=hrr c0 (by exact Nat.lt_of_lt_of_le ‹_› ‹_›)
  exact ⟨by exact N8 hl h2 h3,h4⟩
 w:=λ n v hn hv=>by
  by_cases h:n<ns0.length
  ·obtain ⟨v0,h1⟩:=hcov n h
   obtain ⟨u,hu,h2⟩:=b.low n v0 trivial h1
   rw[hv] at h2;cases h2
   have:=g.w n v0 h (by rw[h0 n h];exact h1)
   exact Pf hu this
  ·rw[hwN n (by exact Nat.le_of_not_lt ‹_›)]
   obtain ⟨c0,h1,_⟩:=b.src _ _ hv
   have h2:=(g.key c0 v h1).1
   have:=g.w c0 v h2 (by rw[h0 c0 h2];exact h1)
   have:=hw c0
   exact Sf ‹_› this
 one:=λ n m hn hm hno hrm=>by
  have f:∀a,a<ns.length→lB.lookup (r a)=Option.none→a=ns0.length:=λ a ha e=>by
   by_cases h:a<ns0.length
   ·obtain ⟨v0,h1⟩:=hcov a h
    obtain ⟨u,_,h2⟩:=b.low a v0 trivial h1
    rw[e] at h2;cases h2
   ·exact Pk hl1 ha h
  rw[f n hn hno,f m hm (hrm▸hno)]
theorem xE.uniq {f f' g g':Dt} {done done':Nat→Prop} (b:xE r f g done) (b':xE r' f' g' done') (hf:∀c,f.lookup c=f'.lookup c) (hd:∀c v,f.lookup c=some v→done c∧done' c∧r c=r' c) (x:Nat):g.lookup x=g'.lookup x:=by
 have s:∀u,g.lookup x=some u→∃w,w≤u∧g'.lookup x=some w:=λ u hu=>by
  obtain ⟨c,h1,rfl⟩:=b.src x u hu
  obtain ⟨_,d2,d3⟩:=hd c u h1
  obtain ⟨w,hw,h2⟩:=b'.low c u d2 (hf c▸h1)
  exact ⟨w,hw,d3▸h2⟩
 have s':∀u,g'.lookup x=some u→∃w,w≤u∧g.lookup x=some w:=λ u hu=>by
  obtain ⟨c,h1,rfl⟩:=b'.src x u hu
  rw[←hf] at h1
  obtain ⟨d1,_,d3⟩:=hd c u h1
  obtain ⟨w,hw,h2⟩:=b.low c u d1 h1
  exact ⟨w,hw,d3▸h2⟩
 cases e:g.lookup x with
 | some u=>
  obtain ⟨w,hw,h1⟩:=s u e
  obtain ⟨v,hv,h2⟩:=s' w h1
  rw[e] at h2;cases h2
  rw[h1,Nat.le_antisymm hw hv]
 | none=>cases e':g'.lookup x with
  | none=>rfl
  | some u=>obtain ⟨w,_,h⟩:=s' u e';rw[e] at h;cases h
theorem uF {f:Nat→Option Nat} {n:Nat} (h:∀k∈aL ns n,r k=r' k):nB ns z r f n=nB ns z r' f n:=by
 unfold nB
 congr 2
 exact List.map_congr_left λ k hk=>congrArg f (h k hk)
theorem G1.congr {f:Nat→Option Nat} (h:∀a,a<ns.length→r a=r' a) (hk:∀n k,n<ns.length→k∈aL ns n→k<ns.length) (j:G1 ns z r f):G1 ns z r' f:=λ c v e=>by
 obtain ⟨n,x,h1,h2,h3,h4⟩:=j c v e
 exact ⟨n,x,h1,by rw[←h n h1];exact h2,by rw[←uF λ k hk'=>h k (hk n k h1 hk')];exact h3,h4⟩
theorem Gz.congr {f:Nat→Option Nat} (h:∀a,a<ns.length→r a=r' a) (hk:∀n k,n<ns.length→k∈aL ns n→k<ns.length) (j:Gz ns z r f):Gz ns z r' f:=λ n x hn hx=>by
 rw[←uF λ k hk'=>h k (hk n k hn hk')] at hx
 obtain ⟨v,h1,h2⟩:=j n x hn hx
 exact ⟨v,h1,by rw[←h n hn];exact h2⟩
theorem F8 {N a:Nat} (h:a<N):hf (List.range N) a=a:=by
 unfold hf;rw[List.getD_eq_getElem?_getD,List.getElem?_range h];rfl
end
section
variable {M M':HM} {N:Nat}
noncomputable def xB (M:HM) (N:Nat):Nat→Nat:=λ n=>if n<N then (M.weights.getD n 0).toNat else 1540
theorem Sgl0.kids_lt (g:Sgl0 M N):∀n k,n<M.nodes.length→k∈aL M.nodes n→k<n:=λ n k hn hk=>by
 rw[g.nodes] at hn
 exact g.ok.kid (by rw[g.up,dI];exact hn) hk
theorem uH {w:List Int} (hw:∀k:Nat,0≤w.getD k 0):∀ks:List Int,(((ks.map Int.toNat).map λ k:Nat=>(w.getD k 0).toNat).sum:Int)=(ks.map λ k=>w.getD k.toNat 0).sum
 | []=>rfl
 | k::r=>by
  have:=hw k.toNat
  rw[List.map_cons,List.map_cons,List.map_cons,List.sum_cons,List.sum_cons,←uH hw r]
  exact M0 this
theorem G3.wts (g:G3 M N) (n:Nat):0≤M.weights.getD n 0∧M.weights.getD n 0≤1534:=by
 by_cases h:n<M.weights.length
 ·have:=g.w _ (mR h);exact BW this
 ·rw[List.getD_eq_getElem?_getD,List.getElem?_eq_none (by exact Nat.le_of_not_lt ‹_›)]
  exact ⟨Int.le_refl _,by decide⟩
theorem G3.sums (g:G3 M N) {n:Nat} (hn:n<N):((aL M.nodes n).map (xB M N)).sum+1≤xB M N n∧xB M N n≤1534:=by
 obtain ⟨nd,h1,_,h3⟩:=pV g.toSgl0 hn
 have h4:=g.ww n nd h1
 have h5:M.weights.getD n 0=1+(nd.2.map λ k=>M.weights.getD k.toNat 0).sum:=by rw[List.getD_eq_getElem?_getD,h4];rfl
 have h6:((aL M.nodes n).map (xB M N))=(nd.2.map Int.toNat).map λ k:Nat=>(M.weights.getD k 0).toNat:=by
  rw[h3]
  refine List.map_congr_left λ k hk=>?_
  obtain ⟨x,hx,rfl⟩:=List.mem_map.mp hk
  have:=(g.kids n nd h1).2 x hx
  exact if_pos (by exact Jd hn this)
 have h7:=uH (w:=M.weights) (λ k=>(g.wts k).1) nd.2
 have h8:=(g.wts n).2
 have h9:xB M N n=(M.weights.getD n 0).toNat:=if_pos hn
 rw[h6,h9]
 exact Mm h5 h7 h8
theorem G3.wtok (g:G3 M N):uA M.nodes (xB M N):=⟨λ n hn=>by have:=g.sums (g.nodes▸hn);exact Jv this,λ n k hn hk=>Nat.lt_trans (g.toSgl0.kids_lt n k hn hk) hn⟩
theorem G3.wtok1 (g:G3 M N) {nd:Str×List Int} (hn:M'.nodes=M.nodes++[nd]) {x:Nat} (hx:nd.2=[(x:Int)]) (hxN:x<N):uA M'.nodes (xB M N):=by
 have hl:=g.nodes
 have e:∀n,n<N→aL M'.nodes n=aL M.nodes n:=λ n h=>by
  unfold aL;rw[hn,List.getD_eq_getElem?_getD,List.getD_eq_getElem?_getD,List.getElem?_append_left (by exact Nat.lt_of_lt_of_eq ‹_› (Eq.symm ‹_›))]
 have eN:aL M'.nodes N=[x]:=by
  unfold aL;rw[hn,List.getD_eq_getElem?_getD,List.getElem?_append_right (by exact Nat.le_of_eq ‹_›),hl,Nat.sub_self]
  show nd.2.map Int.toNat=_
  rw[hx];rfl
 have hl':M'.nodes.length=N+1:=by rw[hn,List.length_append,hl];rfl
 have last:∀n,n<M'.nodes.length→n<N∨n=N:=λ n h=>by exact Qb hl' h
 refine ⟨λ n h=>?_,λ n k h hk=>?_⟩
 ·rcases last n h with h | rfl
  ·rw[e n h];have:=g.sums h;exact Jv this
  ·rw[eN]
   have:=(g.sums hxN).2
   have h2:xB M n n=1540:=if_neg (Nat.lt_irrefl _)
   rw[h2]
   show xB M n x+0+1≤1540∧_
   exact Z9 this
 ·rcases last n h with h | rfl
  ·rw[e n h] at hk
   have:=g.toSgl0.kids_lt n k (by exact Nat.lt_of_lt_of_eq ‹_› (Eq.symm ‹_›)) hk
   exact Oh hl' h this
  ·rw[eN,List.mem_singleton] at hk
   subst hk;exact P9 hl' hxN
end
noncomputable abbrev sN:List Stmt:=bE (bI PT 22)
noncomputable abbrev lI (K fa:Addr) (cd:Value):Env:=envOf z173 (jM (bI PT 22)) K fa cd
noncomputable def zK (k:Nat):Bool:=(k:Int)==0
noncomputable def Hl (t:Tg):Bool:=t== .t 22
noncomputable def Hc (t:Tg):Bool:=t== .t 0||t== .t 32
structure lU (ns0:iT) (N:Nat) (r0 wt:Nat→Nat) (L:HL) (a:KA) (E:Addr) (k:Nat) (V:Addr) (l e:Dt) (σ:aF):Prop where
 rep:cL k L a (zK k) V l σ
 dl:xD N l
 g:eB ns0 (zK k) r0 wt l
 cov:∀n,n<N→∃v,l.lookup n=some v
 hE:σ E=some (.u 13 k,.idict (lO e))
 de:xD N e
 eq:∀n,e.lookup n=l.lookup n
section
variable {p:Tg→Bool} {σ σ':aF}
theorem aI.extP {L:HL} {M:HM} (q:aI L M σ) (e:bD p σ σ') (h:∀n,1≤n→n≤18→p (.t n)=false) (h1:∀i,p (.u 1 i)=false) (h2:∀i,p (.u 2 i)=false):aI L M σ' where
 fix:=λ n t b bo hn he=>by
  have h3:=cW he
  dsimp only at h3
  subst h3
  have hl:=(List.getElem?_eq_some_iff.mp he).1
  have:(eA L M).length=19:=rfl
  exact e _ _ _ (h n (by exact Nat.pos_of_ne_zero ‹_›) (by exact Nat.le_of_lt_succ ‹_›)) (q.fix n _ b bo hn he)
 lot:=λ n b l he=>e _ _ _ (h1 _) (q.lot n b l he)
 abv:=λ n b l he=>e _ _ _ (h2 _) (q.abv n b l he)
theorem bD.wk {p':Tg→Bool} (x:bD p σ σ') (h:∀t,p' t=false→p t=false):bD p' σ σ':=λ t b o hp e=>x t b o (h t hp) e
theorem aI.extL {L:HL} {M:HM} (q:aI L M σ) (e:bD qZ σ σ'):aI L M σ':=q.extP e (λ n h1 h2=>by unfold qZ;simp;exact BK h1 h2) (λ i=>rfl) λ i=>rfl
theorem aI.extU {L:HL} {M:HM} (q:aI L M σ) (e:bD Hc σ σ'):aI L M σ':=q.extP e (λ n h1 h2=>by unfold Hc;simp;exact BJ h1 h2) (λ i=>rfl) λ i=>rfl
theorem lU.ext {ns0:iT} {N:Nat} {r0 wt:Nat→Nat} {L:HL} {a:KA} {E:Addr} {k:Nat} {V:Addr} {l e:Dt} (o:lU ns0 N r0 wt L a E k V l e σ) (x:bD p σ σ') (h:∀i,3≤i→p (.u i k)=false):lU ns0 N r0 wt L a E k V l e σ':=
 ⟨o.rep.extP x λ i h1 _=>h i h1,o.dl,o.g,o.cov,x _ _ _ (h 13 (by decide)) o.hE,o.de,o.eq⟩
theorem Fs {i j k:Nat} (h:3≤i) (hk:k≠j):jA j (.u i k)=false:=by
 unfold jA eO
 simp[hk]
 exact K5 h
theorem Hi {x:Option Nat} {v u:Nat} (h:C4 x (some v)=some u):(if (v:Int)<(((x.map λ w:Nat=>(w:Int)).getD v:Int)) then (v:Int) else ((x.map λ w:Nat=>(w:Int)).getD v:Int))=u:=by
 cases x with
 | none=>cases h;exact if_neg (Int.lt_irrefl _)
 | some w=>
  have:min w v=u:=Option.some.inj h
  show (if (v:Int)<(w:Int) then (v:Int) else (w:Int))=u
  split<;>(first | exact Re this ‹_› | exact Rd this ‹_›)
theorem xE.step {r:Nat→Nat} {f g:Dt} {n v u:Nat} (b:xE r f g (· <n)) (hv:f.lookup n=some v) (eu:C4 (g.lookup (r n)) (some v)=some u):xE r f (dZ g (r n) u) (· <n+1) where
 low:=λ c w hc hw=>by
  rw[cF]
  by_cases e:r c=r n
  ·rw[if_pos e]
   by_cases h:c<n
   ·obtain ⟨w1,h1,h2⟩:=b.low c w h hw
    rw[e] at h2
    obtain ⟨w2,h3,h4⟩:=vR (y:=some v) h2
    rw[h4] at eu;cases eu
    exact ⟨_,Nat.le_trans h3 h1,rfl⟩
   ·obtain rfl:c=n:=by exact Fi hc h
    rw[hv] at hw;cases hw
    obtain ⟨w2,h3,h4⟩:=vQ (x:=g.lookup (r c)) (y:=some v) rfl
    rw[h4] at eu;cases eu
    exact ⟨_,h3,rfl⟩
  ·rw[if_neg e]
   by_cases h:c<n
   ·exact b.low c w h hw
   ·obtain rfl:c=n:=by exact Fi hc h
    exact absurd rfl e
 src:=λ x w hw=>by
  rw[cF] at hw
  by_cases e:x=r n
  ·rw[if_pos e] at hw;cases hw
   rcases qU eu with h3 | h3
   ·obtain ⟨c,h4,h5⟩:=b.src _ _ h3
    exact ⟨c,h4,h5.trans e.symm⟩
   ·cases h3;exact ⟨n,hv,e.symm⟩
  ·rw[if_neg e] at hw;exact b.src x w hw
end
noncomputable def gP (E:Nat→Addr) (i:Nat):List AV:=(List.range i).map λ k=>.ref (E k)
theorem yQ {E:Nat→Addr} {i k:Nat} (h:k<i):(gP E i)[k]? =some (.ref (E k)):=by
 unfold gP;rw[List.getElem?_map,List.getElem?_range h];rfl
theorem yP {E:Nat→Addr} {i k:Nat} {y:AV} (h:(gP E i)[k]? =some y):k<i∧y= .ref (E k):=by
 unfold gP at h
 rw[List.getElem?_map] at h
 obtain ⟨x,hx,rfl⟩:=Option.map_eq_some_iff.mp h
 obtain ⟨hl,e⟩:=List.getElem?_eq_some_iff.mp hx
 rw[List.getElem_range] at e
 rw[List.length_range] at hl
 exact ⟨hl,by rw[e]⟩
structure pB (R Hd El:Addr) (loc:aV):Prop where
 r:loc z170=some (.ref R)
 h:loc z211=some (.ref Hd)
 e:loc z230=some (.ref El)
inductive tA (L:HL) (M:HM) (H:List Nat) (E:Nat→Addr) (R Hd El:Addr) (i:Nat) (σ:aF):Prop
 | mk (c1:aI L M σ) (c2:σ R=some (.t 20,.list (bQ M.nodes))) (c3:σ Hd=some (.t 23,.list (aS (aQ H)))) (c4:σ El=some (.t 31,.list (gP E i))):tA L M H E R Hd El i σ
inductive Gu (R Hd El D:Addr) (aX:Addr) (i:Nat) (N B:Nat) (r:Nat→Nat) (e:Dt) (σ:aF) (j:Nat) (loc:aV) (σ':aF):Prop
 | mk (c1:pB R Hd El loc) (c2:loc z90=some (.int (N:Int))) (c3:loc z16=some (.int (i:Int))) (c4:loc z225=some (.ref aX)) (c5:loc z232=some (.ref D)) (f:Dt) (c6:bD Hc σ σ') (c7:σ' D=some (.t 32,.idict (lO f))) (c8:xD B f) (c9:xE r e f (· <j)):Gu R Hd El D aX i N B r e σ j loc σ'
section
variable {c:Cx} {K fa:Addr} {cd:Value} {loc:aV} {σ:aF} {Φ:AF→aV→aF→Prop}
noncomputable def Ct (i:Nat) (t:Tg):Bool:=jA i t||(qZ t||t== .t 32)
theorem Eb {i:Nat} {t:Tg} (h:Ct i t=false):jA i t=false:=(Bool.or_eq_false_iff.mp h).1
theorem vL {i:Nat} {t:Tg} (h:Ct i t=false):qZ t=false:=(Bool.or_eq_false_iff.mp (Bool.or_eq_false_iff.mp h).2).1
theorem vY {t:Tg} (h:qZ t=false):Cp t=false:=(Bool.or_eq_false_iff.mp (Bool.or_eq_false_iff.mp h).1).1
theorem Kl {i:Nat} {t:Tg} (h:Ct i t=false):Hc t=false:=Bool.or_eq_false_iff.mpr ⟨vY (vL h),(Bool.or_eq_false_iff.mp (Bool.or_eq_false_iff.mp h).2).2⟩
theorem Gg (f:Dt) (k v:Nat):(gY (lO f) (k:Int)).getD (.int (v:Int))= .int (((f.lookup k).map λ w:Nat=>(w:Int)).getD (v:Int)):=by
 rw[kC];cases f.lookup k<;>rfl
noncomputable def Ce:Stmt→List Stmt
 | .For _ _ b _ _=>b
 | _=>[]
noncomputable abbrev V3:List Stmt:=Ce (sN.getD 10 (.Pass default))
theorem C2 (hc:10≤c.n) {ns0:iT} {r0 wt:Nat→Nat} {L:HL} {M:HM} {H:List Nat} {E:Nat→Addr} {R Hd El V:Addr} {i N:Nat} {a:KA} {l e:Dt} (o:gH M) (hN:N≤M.up.length) (hHl:H.length=M.up.length) (hr:∀a,a<M.up.length→root M.up a=hf H a) (hi:i<2)
  (hus:∀n,n<M.up.length→∀k∈aL M.nodes n,(n:Int)∈(M.ab (root M.up k)).2) (hab:∀i:Nat,M.up[i]? =some (i:Int)→∀x∈(M.ab i).2,∃n:Nat,n<M.up.length∧x=n) (W:uA M.nodes wt)
  (hg:∀lB,xE (root M.up) l lB (λ _=>True)→eB M.nodes (zK i) (root M.up) wt lB) (l1:pB R Hd El loc) (l2:loc z90=some (.int (N:Int))) (l3:loc z16=some (.int (i:Int))) (l4:loc z225=some (.ref a.X)) (s1:tA L M H E R Hd El 2 σ) (ko:lU ns0 N r0 wt L a (E i) i V l e σ)
  (h:∀loc' σ',pB R Hd El loc'→loc' z90=some (.int (N:Int))→bD (Ct i) σ σ'→aI L M σ'→Φ .next loc' σ'):WS c (lI K fa cd) loc σ (execs V3 (lI K fa cd)) Φ:=by
 have hfew:=o.few
 have hno:=o.nodes
 have hle:∀a,a<M.up.length→hf H a≤a:=λ a ha=>hr a ha▸(dW o.up ha).2.1
 have hkl:∀n k,n<M.nodes.length→k∈aL M.nodes n→k<M.nodes.length:=λ n k hn hk=>by have:=o.kid (hno▸hn) hk;exact Qi hn this
 obtain ⟨q,hR,hH,hEl⟩:=s1
 refine aE (aJ (iF (.t 32) λ D hD=>cP rfl rfl ?_))
 refine aE (nA rfl (aC l2 rfl ⟨N,rfl,by exact Sd hN hfew,Gu R Hd El D a.X i N M.up.length (hf H) e σ,⟨⟨l1.r,l1.h,l1.e⟩,l2,l3,l4,rfl,[],(bD.refl σ).put (.inl hD),aF.put_same ..,⟨List.nodup_nil,λ p hp=>by cases hp⟩,⟨λ c v hc=>absurd hc (Nat.not_lt_zero _),λ x u hu=>by cases hu⟩⟩,?_,?_⟩))
 ·rintro j loc σ' hj' ⟨l1,l2,l3,l4,l5,f,E',hF,df,bf⟩
  obtain ⟨v,hv⟩:=ko.cov j hj'
  rw[←ko.eq] at hv
  have hH':=E' _ _ _ rfl hH
  have hEl':=E' _ _ _ rfl hEl
  have hE':=E' _ _ _ rfl ko.hE
  have hjl:j<H.length:=by exact N6 hN hHl hj'
  have hb:=ko.de.lt _ (fV hv)
  dsimp only at hb
  have ix:∀{Ψ:AV→aF→Prop} {loc:aV} {p1 p2 p3 p4 p5:Pos},loc z230=some (.ref El)→loc z16=some (.int (i:Int))→loc z92=some (.int (j:Int))→Ψ (.int (v:Int)) σ'→WE c (lI K fa cd) loc σ' (.Subscript (.Subscript (.Name z230 p1) (.Name z16 p2) p3) (.Name z92 p4) p5) Ψ:=λ a b d hΨ=>
   bF (bF (aC a rfl (aC b rfl (bC hEl' (yQ hi) (by exact Nat.le_trans ‹_› (Nat.le_of_ble_eq_true rfl)) (aC d rfl (fN (x:=.int (v:Int)) hE' (by rw[kC,hv];rfl) hΨ))))))
  have hx:∀{Ψ:AV→aF→Prop} {loc:aV} {p1 p2 p3:Pos},loc z211=some (.ref Hd)→loc z92=some (.int (j:Int))→Ψ (.int ((hf H j:Nat):Int)) σ'→WE c (lI K fa cd) loc σ' (.Subscript (.Name z211 p1) (.Name z92 p2) p3) Ψ:=λ a b hΨ=>
   bF (aC a rfl (aC b rfl (bC hH' (nO hjl) (by exact P4 hHl hfew hjl) hΨ)))
  refine cP rfl rfl (aE (aJ (bP (cE c.w 3 rfl) rfl aK (aA (cO (oS hF) (aM l5 rfl) (aA (hx l1.h rfl (aA (ix l1.e l3 rfl (aB (G7 hF ?_)))))))))))
  rw[Gg]
  obtain ⟨u,hu,eu⟩:=vQ (x:=f.lookup (hf H j)) (y:=some v) rfl
  refine aA (ix l1.e l3 rfl (aB (vJ ?_)))
  rw[Hi eu]
  refine gU (aC l5 rfl (hx l1.h rfl (eS hF (by rw[mX];have:=df.few;exact Fg hfew this) (mW f (hf H j) u) ?_)))
  have:=hle j (by exact Nat.lt_of_lt_of_eq ‹_› ‹_›)
  exact aP ⟨⟨l1.r,l1.h,l1.e⟩,l2,l3,l4,l5,_,E'.put (.inr ⟨_,_,rfl,hF⟩),aF.put_same ..,df.put (by exact Od hHl hjl this) (by exact Ol hb hu),bf.step hv eu⟩
 rintro loc σ1 ⟨l1,l2,l3,l4,l5,f,E1,hF,df,bf⟩
 have r1:cL i L a (zK i) V l σ1:=ko.rep.extP E1 λ _ _ _=>rfl
 have q1:=q.extU E1
 refine aE (bA (bG r1.x r1.d rfl (gX (fU c.w) 2 rfl) (aM l4 rfl) (aB ?_)))
 have dl1:xD M.up.length l:=⟨ko.dl.nd,λ p hp=>⟨Nat.lt_of_lt_of_le (ko.dl.lt p hp).1 hN,(ko.dl.lt p hp).2⟩⟩
 refine zE (Nat.le_trans (Nat.le_of_ble_eq_true rfl:4≤10) hc) q1 o r1 dl1 λ σ2 V2 lB E2 q2 r2 d2 b2=>?_
 have g2:=hg lB b2
 have E2':bD (jA i) σ1 σ2:=E2
 have F2:bD (Ct i) σ σ2:=(E1.wk λ _ h=>Kl h).trans (E2'.wk λ _ h=>Eb h)
 have hD2:=E2' _ _ _ rfl hF
 refine aE (eG (sY (gB (fF (lV 12 rfl) rfl (aA (aC l4 rfl (aA (aC l1.r rfl (aA (aC l1.h rfl (aA (aC l5 rfl (aB ?_)))))))))))))
 refine lK (Nat.le_trans (Nat.le_of_ble_eq_true rfl:5≤10) hc) q2 o r2 (tD:=.t 32) (dK rfl) (F2 _ _ _ rfl hR) (F2 _ _ _ rfl hH) hHl hD2 (λ n hn=>?_) λ σ3 E3=>?_
 ·rw[←hr n hn]
  refine xE.uniq b2 bf (λ c=>(ko.eq c).symm) (λ c v hv=>?_) _
  have:=(ko.dl.lt _ (fV hv)).1
  dsimp only at this
  exact ⟨trivial,this,hr c (by exact Nat.lt_of_lt_of_le ‹_› ‹_›)⟩
 refine fS ?_
 rw[if_neg (by simp)]
 refine aP ?_
 have F3:=F2.trans (E3.wk λ _ h=>vY (vL h))
 refine aE (aJ (fF (lV 10 rfl) rfl (aA (aC l1.r rfl (aA (aC l1.h rfl (aA (gT (aC l3 rfl (aY (qR (aB ?_))))))))))))
 refine yC (z:=zK i) (tD:=.t 33) (wt:=wt) (Nat.le_trans (Nat.le_of_ble_eq_true rfl:1≤10) hc) ⟨(dK rfl),(dK rfl),(dK rfl)⟩ (dK rfl) (F3 _ _ _ rfl hR) (F3 _ _ _ rfl hH) (hHl.trans hno.symm) (λ a ha=>hle a (hno▸ha)) (by exact Ss hfew hno) o.kids W λ σ4 D4 f4 hn4 E4 hD4 lv st=>?_
 have F4:=F3.trans (E4.wk λ _ h=>vL h)
 have q4:=(q2.extP E3 (λ n h1 h2=>by unfold Cp;simp;exact K6 h1) (λ i=>rfl) λ i=>rfl).extL E4
 have r4:cL i L a (zK i) V2 lB σ4:=(r2.extP E3 λ _ _ _=>rfl).extP E4 λ _ _ _=>rfl
 refine cP rfl rfl ?_
 have jl:G1 M.nodes (zK i) (root M.up) (lk f4):=lv.jus.congr (λ a ha=>(hr a (hno▸ha)).symm) hkl
 have sl:Gz M.nodes (zK i) (root M.up) (lk f4):=st.congr (λ a ha=>(hr a (hno▸ha)).symm) hkl
 refine aE (nA rfl (aY ⟨2,rfl,by decide,λ t loc σ'=>pB R Hd El loc∧loc z90=some (.int (N:Int))∧loc z225=some (.ref a.X)∧loc z214=some (.ref D4)∧bD (Ct i) σ σ'∧σ' D4=some (.t 33,.idict (lO f4))∧aI L M σ'∧∃V l,cL i L a (zK i) V l σ'∧xD M.up.length l∧eB M.nodes (zK i) (root M.up) wt l,
  ⟨⟨l1.r,l1.h,l1.e⟩,l2,l4,rfl,F4,hD4,q4,_,_,r4,d2,g2⟩,?_,?_⟩))
 ·rintro t loc σ5 _ ⟨l1,l2,l4,l6,F5,hD5,q5,V5,l5',r5,d5,g5⟩
  refine cP rfl rfl (aE (bA (bG r5.x r5.d rfl (gX (fU c.w) 4 rfl) (aM l4 rfl) (aB ?_))))
  refine B8 (Nat.le_trans (Nat.le_of_ble_eq_true rfl:6≤10) hc) q5 o hus hab r5 d5 W (λ _ b=>g5.beg b) λ σ6 V6 l6' E6 q6 r6 d6 g6 s6=>?_
  have E6':bD (jA i) σ5 σ6:=E6
  have F6:=F5.trans (E6'.wk λ _ h=>Eb h)
  have hD6:=E6' _ _ _ rfl hD5
  refine aE (eG (sY (gB (fF (lV 12 rfl) rfl (aA (aC l4 rfl (aA (aC l1.r rfl (aA (aC l1.h rfl (aA (aC l6 rfl (aB ?_)))))))))))))
  refine lK (Nat.le_trans (Nat.le_of_ble_eq_true rfl:5≤10) hc) q6 o r6 (tD:=.t 33) (dK rfl) (F6 _ _ _ rfl hR) (F6 _ _ _ rfl hH) hHl hD6 (λ n hn=>?_) λ σ7 E7=>?_
  ·rw[←hr n hn]
   exact qW g6.jus s6 jl sl _
  refine fS ?_
  rw[if_neg (by simp)]
  refine aP (aP ⟨⟨l1.r,l1.h,l1.e⟩,l2,l4,l6,F6.trans (E7.wk λ _ h=>vY (vL h)),E7 _ _ _ rfl hD6,q6.extP E7 (λ n h1 h2=>by unfold Cp;simp;exact K6 h1) (λ i=>rfl) λ i=>rfl,V6,l6',r6.extP E7 λ _ _ _=>rfl,d6,g6⟩)
 rintro loc σ5 ⟨l1,l2,l4,l6,F5,hD5,q5,_⟩
 exact aP (h loc σ5 l1 l2 F5 q5)
end
noncomputable def Ad (i:Nat) (t:Tg):Bool:=jA i t||(qZ t||t== .t 31)
theorem Kj {i:Nat} {t:Tg} (h:Ad i t=false):jA i t=false:=(Bool.or_eq_false_iff.mp h).1
theorem Ea {i:Nat} {t:Tg} (h:Ad i t=false):qZ t=false:=(Bool.or_eq_false_iff.mp (Bool.or_eq_false_iff.mp h).2).1
noncomputable abbrev V4:List Stmt:=Ce (sN.getD 4 (.Pass default))
section
variable {c:Cx} {K fa:Addr} {cd:Value} {loc:aV} {σ:aF} {Φ:AF→aV→aF→Prop}
theorem Di {E:Nat→Addr} {i:Nat} {D:Addr}:gP E i++[.ref D]=gP (λ k=>if k=i then D else E k) (i+1):=by
 unfold gP
 rw[List.range_succ,List.map_append]
 congr 1
 ·refine List.map_congr_left λ k hk=>?_
  have:=List.mem_range.mp hk
  show AV.ref (E k)=AV.ref (if k=i then D else E k)
  rw[if_neg (by exact Nat.ne_of_lt ‹_›)]
 ·show [AV.ref D]=[AV.ref (if i=i then D else E i)]
  rw[if_pos rfl]
theorem C3 (hc:10≤c.n) {L:HL} {M:HM} {E:Nat→Addr} {R Hd El V:Addr} {i N:Nat} {a:KA} (g:G3 M N) (hi:i<2)
  (l1:pB R Hd El loc) (l3:loc z16=some (.int (i:Int))) (l4:loc z225=some (.ref a.X)) (s1:tA L M (List.range N) E R Hd El i σ) (r:cL i L a (zK i) V [] σ)
  (h:∀σ' V l e D,bD (Ad i) σ σ'→tA L M (List.range N) (λ k=>if k=i then D else E k) R Hd El (i+1) σ'→lU M.nodes N (root M.up) (xB M N) L a D i V l e σ'→Φ .next loc σ'):WS c (lI K fa cd) loc σ (execs V4 (lI K fa cd)) Φ:=by
 have o:=g.toSgl0.ok
 have hul:M.up.length=N:=by rw[g.up,dI]
 have hfew:=o.few
 have hno:=g.nodes
 have W:=g.wtok
 have iv:=g.toSgl.inv
 have hrt:∀a,a<M.nodes.length→root M.up a=a:=λ a ha=>by rw[g.up];exact dY (hno▸ha)
 have hHl:(List.range N).length=M.nodes.length:=by rw[List.length_range,hno]
 have hfr:∀a,a<M.nodes.length→hf (List.range N) a=root M.up a:=λ a ha=>(F8 (hno▸ha)).trans (hrt a ha).symm
 have hkl:∀n k,n<M.nodes.length→k∈aL M.nodes n→k<M.nodes.length:=λ n k hn hk=>Nat.lt_trans (g.toSgl0.kids_lt n k hn hk) hn
 obtain ⟨q,hR,hH,hEl⟩:=s1
 refine aE (bA (bG r.x r.d rfl (gX (fU c.w) 4 rfl) (aM l4 rfl) (aB ?_)))
 refine B8 (Nat.le_trans (Nat.le_of_ble_eq_true rfl:6≤10) hc) q o iv.us iv.abR r ⟨List.nodup_nil,λ p hp=>by cases hp⟩ W (λ _ b=>eB.none b.none hrt) λ σ1 V1 l E1 q1 r1 d1 g1 s1=>?_
 have E1':bD (jA i) σ σ1:=E1
 have hR1:=E1' _ _ _ rfl hR
 have hH1:=E1' _ _ _ rfl hH
 have hEl1:=E1' _ _ _ rfl hEl
 have F1:bD (Ad i) σ σ1:=E1'.wk λ _ h=>Kj h
 refine aE (bA (cO (cN hEl1) (aM l1.e rfl) (aA (fF (lV 10 rfl) rfl (aA (aC l1.r rfl (aA (aC l1.h rfl (aA (gT (aC l3 rfl (aY (qR (aB ?_))))))))))))))
 refine yC (z:=zK i) (tD:=.u 13 i) (wt:=xB M N) (Nat.le_trans (Nat.le_of_ble_eq_true rfl:1≤10) hc) ⟨(dK rfl),(dK rfl),(dK rfl)⟩ (dK rfl) hR1 hH1 hHl (λ a ha=>by rw[hfr a ha];exact Nat.le_of_eq (hrt a ha)) (by exact P6 hul hfew hno) o.kids W λ σ2 D e hDn E2 hD lv st=>aB ?_
 have hEl2:=E2 _ _ _ rfl hEl1
 refine bR hEl2 (by unfold gP;rw[List.length_map,List.length_range];exact AS hi) ?_
 rw[Di]
 have hDE:D≠El:=gA hD hEl2 (dK rfl)
 have F2:bD (Ad i) σ (σ2.put El (.t 31,.list (gP (λ k=>if k=i then D else E k) (i+1)))):=(F1.trans (E2.wk λ _ h=>Ea h)).put (.inr ⟨_,_,by unfold Ad;simp,hEl2⟩)
 have q2:=(q1.extL E2).putO (y:=.list (gP (λ k=>if k=i then D else E k) (i+1))) hEl2 rfl
 have r2:cL i L a (zK i) V1 l (σ2.put El (.t 31,.list (gP (λ k=>if k=i then D else E k) (i+1)))):=(r1.extP E2 λ _ _ _=>rfl).extP (p:=(· == .t 31)) ((bD.refl σ2).put (.inr ⟨_,_,rfl,hEl2⟩)) λ _ _ _=>rfl
 have hD2:=(aF.put_ne σ2 (.t 31,.list (gP (λ k=>if k=i then D else E k) (i+1))) hDE).trans hD
 have hR2:=F2 _ _ _ rfl hR
 have hH2:=F2 _ _ _ rfl hH
 have hEl3:=aF.put_same σ2 El (.t 31,.list (gP (λ k=>if k=i then D else E k) (i+1)))
 generalize σ2.put El (.t 31,.list (gP (λ k=>if k=i then D else E k) (i+1)))=σ3 at*
 have eq:∀n,e.lookup n=l.lookup n:=λ n=>qW (lv.jus.congr hfr hkl) (st.congr hfr hkl) g1.jus s1 n
 refine aE (eG (sY (gB (fF (lV 12 rfl) rfl (aA (aC l4 rfl (aA (aC l1.r rfl (aA (aC l1.h rfl (aA (bF (aC l1.e rfl (aC l3 rfl (bC hEl3 (yQ (Nat.lt_succ_self i)) (by exact Nat.le_trans ‹_› (Nat.le_of_ble_eq_true rfl)) (aB ?_))))))))))))))))
 have eD:(if i=i then D else E i)=D:=if_pos rfl
 rw[eD]
 refine lK (tD:=.u 13 i) (Nat.le_trans (Nat.le_of_ble_eq_true rfl:5≤10) hc) q2 o r2 (dK rfl) hR2 hH2 (by rw[List.length_range,hul]) hD2 (λ n hn=>?_) λ σ4 E4=>?_
 ·have hn':n<M.nodes.length:=by exact I1 hul hno hn
  rw[hfr n hn'];exact (eq _).symm
 refine fS ?_
 rw[if_neg (by simp)]
 refine aP (aP (h σ4 V1 l e D (F2.trans (E4.wk λ _ h=>vY (Ea h))) ⟨q2.extP E4 (λ n h1 h2=>by unfold Cp;simp;exact K6 h1) (λ i=>rfl) λ i=>rfl,E4 _ _ _ rfl hR2,E4 _ _ _ rfl hH2,E4 _ _ _ rfl hEl3⟩ ⟨r2.extP E4 λ _ _ _=>rfl,hul▸d1,g1,λ n hn=>?_,E4 _ _ _ rfl hD2,hno▸lv.ok,eq⟩))
 obtain ⟨v,_,hv⟩:=lv.cov n (by exact Nat.lt_of_lt_of_eq ‹_› (Eq.symm ‹_›)) (by exact Nat.lt_of_lt_of_eq ‹_› (Eq.symm ‹_›))
 rw[hfr n (by exact Nat.lt_of_lt_of_eq ‹_› (Eq.symm ‹_›)),hrt n (by exact Nat.lt_of_lt_of_eq ‹_› (Eq.symm ‹_›)),eq] at hv
 exact ⟨v,hv⟩
theorem Hf (hc:10≤c.n) {ns0:iT} {r0 wt:Nat→Nat} {L:HL} {M:HM} {H:List Nat} {E:Nat→Addr} {R Hd El Kp:Addr} {N:Nat} {a:Nat→KA} (o:gH M) (hN:N≤M.up.length) (hHl:H.length=M.up.length) (hr:∀a,a<M.up.length→root M.up a=hf H a)
  (hus:∀n,n<M.up.length→∀k∈aL M.nodes n,(n:Int)∈(M.ab (root M.up k)).2) (hab:∀i:Nat,M.up[i]? =some (i:Int)→∀x∈(M.ab i).2,∃n:Nat,n<M.up.length∧x=n) (W:uA M.nodes wt)
  (hg:∀z l lB,eB ns0 z r0 wt l→(∀n,n<N→∃v,l.lookup n=some v)→xE (root M.up) l lB (λ _=>True)→eB M.nodes z (root M.up) wt lB) (l1:pB R Hd El loc) (l2:loc z90=some (.int (N:Int))) (l5:loc z229=some (.ref Kp)) (s1:tA L M H E R Hd El 2 σ)
  (hKp:σ Kp=some (.t 22,.list (gP (λ k=>(a k).X) 2))) (ko:∀k,k<2→∃V l e,lU ns0 N r0 wt L (a k) (E k) k V l e σ):WS c (lI K fa cd) loc σ (execs (sN.drop 10) (lI K fa cd)) (Gr λ r _=>r= .bool true):=by
 have E5:bD Hl σ (σ.del Kp):=(bD.refl σ).del hKp rfl
 refine aE (qE l5 hKp (λ i loc σ'=>pB R Hd El loc∧loc z90=some (.int (N:Int))∧tA L M H E R Hd El 2 σ'∧∀k,i≤k→k<2→∃V l e,lU ns0 N r0 wt L (a k) (E k) k V l e σ') ⟨⟨l1.r,l1.h,l1.e⟩,l2,?_,λ k _ hk=>?_⟩ ?_ ?_)
 ·obtain ⟨q,hR,hH,hEl⟩:=s1
  exact ⟨q.extP E5 (λ n h1 h2=>by unfold Hl;simp;exact Mh h2) (λ i=>rfl) λ i=>rfl,E5 _ _ _ rfl hR,E5 _ _ _ rfl hH,E5 _ _ _ rfl hEl⟩
 ·obtain ⟨V,l,e,ok⟩:=ko k hk
  exact ⟨V,l,e,ok.ext E5 λ _ _=>rfl⟩
 ·rintro i y loc σ' hyr ⟨l1,l2,s2,ko2⟩
  obtain ⟨hi,rfl⟩:=yP hyr
  obtain ⟨V,l,e,ok⟩:=ko2 i (Nat.le_refl _) hi
  refine cX (cP rfl rfl (cP rfl rfl ?_)) rfl
  refine C2 hc o hN hHl hr hi hus hab W (λ lB b=>hg _ l lB ok.g ok.cov b) ⟨l1.r,l1.h,l1.e⟩ l2 rfl rfl s2 ok λ loc' σ'' m1 m2 E6 q6=>?_
  obtain ⟨q,hR,hH,hEl⟩:=s2
  refine ⟨m1,m2,⟨q6,E6 _ _ _ rfl hR,E6 _ _ _ rfl hH,E6 _ _ _ rfl hEl⟩,λ k h1 h2=>?_⟩
  obtain ⟨V,l,e,ok⟩:=ko2 k (by exact Nat.le_of_lt ‹_›) h2
  exact ⟨V,l,e,ok.ext E6 λ j hj=>Bool.or_eq_false_iff.mpr ⟨Fs hj (by exact Nat.ne_of_gt ‹_›),rfl⟩⟩
 ·rintro loc σ' _ _
  exact aE (aR (fC ⟨_,rfl,rfl⟩))
end
noncomputable def En (t:Tg):Bool:=eO t||(t== .t 21||t== .t 24)
inductive Li (L:HL) (R Ch P El Kp:Addr) (N:Nat) (loc:aV):Prop
 | mk (c1:loc z46=some (.ref (L 1))) (c2:loc z170=some (.ref R)) (c3:loc z168=some (.ref Ch)) (c4:loc z210=some (.ref P)) (c5:loc z230=some (.ref El)) (c6:loc z229=some (.ref Kp)) (c7:loc z90=some (.int (N:Int))):Li L R Ch P El Kp N loc
inductive V9 (L:HL) (M1:HM) (R Ch P El Kp:Addr) (N b:Nat) (rest:List Int) (σ:aF) (i:Nat) (loc:aV) (σ':aF):Prop
 | mk (c1:Li L R Ch P El Kp N loc) (M':HM) (pr:List (Nat×Nat)) (c2:bD En σ σ') (c3:aI L M' σ') (c4:gH M') (c5:eQ M' pr (λ _=>False)) (c6:G0 M' pr) (c7:gV M1 M') (c8:M'.edges.length=i) (c9:pr.length=i) (c10:σ' P=some (.t 24,.list (bU pr))) (c11:σ' Ch=some (.t 21,.list (aS (((b+2*i:Nat):Int)::rest)))):V9 L M1 R Ch P El Kp N b rest σ i loc σ'
section
variable {c:Cx} {K fa:Addr} {cd:Value} {loc:aV} {σ:aF} {Φ:AF→aV→aF→Prop}
theorem Es (hc:10≤c.n) {ns0:iT} {r0 wt:Nat→Nat} {L:HL} {M1:HM} {E:Nat→Addr} {R El Kp Ch P:Addr} {N N1 b:Nat} {rest:List Int} {a:Nat→KA} (g1:Sgl M1 N1) (hN1:N1≤32) (h0N:1≤N1) (hNN:N≤N1) (W:uA M1.nodes wt) (hb:b≤50) (hrl:rest.length≤1000)
  (hgm:∀r:Nat→Nat,(∀a,a<M1.nodes.length→r a≤a∧r (r a)=r a)→∀z l lB,eB ns0 z r0 wt l→(∀n,n<N→∃v,l.lookup n=some v)→xE r l lB (λ _=>True)→eB M1.nodes z r wt lB)
  (ll:Li L R Ch P El Kp N loc) (q:aI L M1 σ) (hR:σ R=some (.t 20,.list (bQ M1.nodes))) (hC:σ Ch=some (.t 21,.list (aS ((b:Int)::rest)))) (hP:σ P=some (.t 24,.list (bU []))) (hEl:σ El=some (.t 31,.list (gP E 2)))
  (hKp:σ Kp=some (.t 22,.list (gP (λ k=>(a k).X) 2))) (ko:∀k,k<2→∃V l e,lU ns0 N r0 wt L (a k) (E k) k V l e σ):WS c (lI K fa cd) loc σ (execs (sN.drop 7) (lI K fa cd)) (Gr λ r _=>r= .bool true):=by
 have o1:=g1.toSgl0.ok
 have hul:M1.up.length=N1:=by rw[g1.up,dI]
 have hno:=g1.nodes
 have hNl:(bQ M1.nodes).length=N1:=eW.trans hno
 have hPC:P≠Ch:=gA hP hC (dK rfl)
 obtain ⟨l1,l2,l3,l4,l5,l6,l7⟩:=ll
 refine aE (nA rfl (aU (aY (fF (lV 7 rfl) rfl (aA (aC l3 rfl (aA (aY (aB ?_)))))))))
 refine gJ (m:=3) (Nat.le_trans (Nat.le_of_ble_eq_true rfl:1≤10) hc) hC (by exact Nat.le_trans ‹_› (Nat.le_of_ble_eq_true rfl)) hrl (by decide) λ d hd=>eX ?_
 have E1:bD En σ (σ.put Ch (.t 21,.list (aS (((b+1:Nat):Int)::rest)))):=(bD.refl σ).put (.inr ⟨_,_,rfl,hC⟩)
 refine ⟨1+d,rfl,by exact AQ hd,V9 L M1 R Ch P El Kp N (b+1) rest σ,⟨⟨l1,l2,l3,l4,l5,l6,l7⟩,M1,[],E1,q.putO hC rfl,o1,g1.inv,λ p hp=>(by cases hp),.refl M1,by rw[g1.ed];rfl,rfl,(aF.put_ne _ _ hPC).trans hP,aF.put_same ..⟩,?_,?_⟩
 ·rintro i loc σ2 hi ⟨⟨l1,l2,l3,l4,l5,l6,l7⟩,M2,pr,E2,q2,o2,i2,p2,hs,he,hpl,hP2,hC2⟩
  have hi':i<3:=by exact Uf hd hi
  have hR2:=E2 _ _ _ rfl hR
  have hl2:M2.up.length=N1:=hs.len.trans hul
  refine cP rfl rfl (aE (aJ (fF (lV 7 rfl) rfl (aA (aC l3 rfl (aA (bP (cZ c.w) rfl aK (aA (aC l2 rfl (aB (bK hR2 (by exact Jh hN1 hNl) (aB ?_))))))))))))
  rw[hNl]
  refine gJ (m:=N1) (Nat.le_trans (Nat.le_of_ble_eq_true rfl:1≤10) hc) hC2 (by exact Sn hb hi') hrl (by exact Nat.zero_lt_of_lt ‹_›) λ x1 hx1=>cP rfl rfl ?_
  have q3:=q2.putO (y:=.list (aS (((b+1+2*i+1:Nat):Int)::rest))) hC2 rfl
  have E3:=E2.put (y:=(.t 21,.list (aS (((b+1+2*i+1:Nat):Int)::rest)))) (.inr ⟨_,_,rfl,hC2⟩)
  have hC3:=aF.put_same σ2 Ch (.t 21,.list (aS (((b+1+2*i+1:Nat):Int)::rest)))
  have hP3:=(aF.put_ne σ2 (.t 21,.list (aS (((b+1+2*i+1:Nat):Int)::rest))) hPC).trans hP2
  generalize σ2.put Ch (.t 21,.list (aS (((b+1+2*i+1:Nat):Int)::rest)))=σ3 at*
  have hR3:=E3 _ _ _ rfl hR
  refine aE (bA (cO (cN hP3) (aM l4 rfl) (aA (aZ (aA (aC rfl rfl (aA (fF (lV 7 rfl) rfl (aA (aC l3 rfl (aA (bP (cZ c.w) rfl aK (aA (aC l2 rfl (aB (bK hR3 (by exact Jh hN1 hNl) (aB ?_)))))))))))))))))
  rw[hNl]
  refine gJ (m:=N1) (Nat.le_trans (Nat.le_of_ble_eq_true rfl:1≤10) hc) hC3 (by exact So hb hi') hrl (by exact Nat.zero_lt_of_lt ‹_›) λ x2 hx2=>?_
  have q4:=q3.putO (y:=.list (aS (((b+1+2*i+1+1:Nat):Int)::rest))) hC3 rfl
  have E4:=E3.put (y:=(.t 21,.list (aS (((b+1+2*i+1+1:Nat):Int)::rest)))) (.inr ⟨_,_,rfl,hC3⟩)
  have hC4:=aF.put_same σ3 Ch (.t 21,.list (aS (((b+1+2*i+1+1:Nat):Int)::rest)))
  have hP4:=(aF.put_ne σ3 (.t 21,.list (aS (((b+1+2*i+1+1:Nat):Int)::rest))) hPC).trans hP3
  generalize σ3.put Ch (.t 21,.list (aS (((b+1+2*i+1+1:Nat):Int)::rest)))=σ4 at*
  refine aB ⟨by simp,aB (bR hP4 (by unfold bU;rw[List.length_map];exact Tf hpl hi') ?_)⟩
  have ep:bU pr++[AV.tup [.int (x1:Int),.int (x2:Int)]]=bU (pr++[(x1,x2)]):=by unfold bU;rw[List.map_append];rfl
  have eg:(bU (pr++[(x1,x2)])).getLast? =some (AV.tup [.int (x1:Int),.int (x2:Int)]):=by rw[←ep];exact List.getLast?_concat ..
  show WS _ _ _ (σ4.put P (.t 24,.list (bU pr++[AV.tup [.int (x1:Int),.int (x2:Int)]]))) _ _
  rw[ep]
  have q5:=q4.putO (y:=.list (bU (pr++[(x1,x2)]))) hP4 rfl
  have E5:=E4.put (y:=(.t 24,.list (bU (pr++[(x1,x2)])))) (.inr ⟨_,_,rfl,hP4⟩)
  have hP5:=aF.put_same σ4 P (.t 24,.list (bU (pr++[(x1,x2)])))
  have hC5:=(aF.put_ne σ4 (.t 24,.list (bU (pr++[(x1,x2)]))) hPC.symm).trans hC4
  generalize σ4.put P (.t 24,.list (bU (pr++[(x1,x2)])))=σ5 at*
  have px:∀{Ψ:AV→aF→Prop} {loc:aV} {j k:Nat} {x:Int} {p1 p2 p3 p4 p5 p6:Pos},loc z210=some (.ref P)→([AV.int (x1:Int),.int (x2:Int)])[j]? =some (.int x)→Ψ (.int x) σ5→WE c (lI K fa cd) loc σ5 (.Subscript (.Subscript (.Name z210 p1) (.UnaryOp .USub (.Constant (.int 1) k p2) p3) p4) (.Constant (.int (j:Int)) k p5) p6) Ψ:=λ h1 h2 hΨ=>
   bF (bF (aC h1 rfl (Go (aY (Kq (Dc hP5 eg (aY (mM h2 hΨ))))))))
  refine aE (bA (bG (q5.at 1) (q5.at 2) rfl (gX (cS c.w) 3 rfl) (aM l1 rfl) (aA (px (j:=0) l4 rfl (aA (px (j:=1) l4 rfl (aA (aZ (aA (fB (aA (bP (cE c.w 11 rfl) rfl bN (aA (aC rfl rfl (aB (Cs (by exact AR hi') (aB ⟨by simp,aB ?_⟩)))))))))))))))))
  refine Df (Nat.le_trans (Nat.le_of_ble_eq_true rfl:4≤10) hc) q5 o2 i2 p2 (by exact Ti he hi') (by exact Nat.lt_of_lt_of_eq ‹_› (Eq.symm ‹_›)) (by exact Nat.lt_of_lt_of_eq ‹_› (Eq.symm ‹_›)) λ σ6 M6 v e6 q6 o6 i6 p6 hs6 he6=>?_
  have E6:bD En σ σ6:=E5.trans (bD.of e6 λ t h=>(Bool.or_eq_false_iff.mp h).1)
  exact aP ⟨⟨l1,l2,l3,l4,l5,l6,l7⟩,M6,_,E6,q6,o6,i6,p6,hs.trans hs6,by exact P0 he he6,by rw[List.length_append,hpl];rfl,e6 _ _ _ rfl hP5,e6 _ _ _ rfl hC5⟩
 rintro loc σ2 ⟨⟨l1,l2,l3,l4,l5,l6,l7⟩,M2,pr,E2,q2,o2,i2,p2,hs,he,hpl,hP2,hC2⟩
 have hpr3:pr.length≤3:=by exact Uc hd hpl
 have hl2:M2.up.length=N1:=hs.len.trans hul
 have hmg:=o2.mg
 refine aE (bA (bG (q2.at 1) (q2.at 2) rfl (gX (cS c.w) 5 rfl) (aM l1 rfl) (aB ?_)))
 refine C0 (Nat.le_trans (Nat.le_of_ble_eq_true rfl:5≤10) hc) q2 o2 i2 p2 (by exact O4 hd he hmg) λ σ3 M3 e3 q3 o3 i3 w3 p3 hs3=>?_
 have E3:bD En σ σ3:=E2.trans (bD.of e3 λ t h=>(Bool.or_eq_false_iff.mp h).1)
 have hn3:M3.nodes=M1.nodes:=(hs.trans hs3).nodes
 have hl3:M3.up.length=N1:=(hs.trans hs3).len.trans hul
 have hR3:=E3 _ _ _ rfl hR
 refine aE (aJ (fF (lV 9 rfl) rfl (aA (aC l2 rfl (aA (aC l4 rfl (aB ?_)))))))
 refine F0 (Nat.le_trans (Nat.le_of_ble_eq_true rfl:1≤10) hc) hR3 (e3 _ _ _ rfl hP2) (by exact Sz hN1 hno) (by exact Nat.le_trans ‹_› (Nat.le_of_ble_eq_true rfl)) (λ p hp=>by have:=p3 p hp;exact Nk hno hl3 this) o1.kids λ σ4 Hd H E4 hm cl hHd=>?_
 have hdone:=i3.done p3 o3 w3
 rw[hn3] at hdone
 have hlst:Ka M1.nodes pr (hf H):=⟨cl,hm.le,hm.sd⟩
 refine cP rfl rfl ?_
 have q4:aI L M3 σ4:=q3.extP E4 (λ n h1 h2=>by unfold Dg;simp;exact BL h1 h2) (λ i=>rfl) λ i=>rfl
 have hR4:=E4 _ _ _ rfl hR3
 refine Hf hc (ns0:=ns0) (r0:=r0) (H:=H) (Hd:=Hd) o3 (by exact Pa hNN hl3) (hm.len.trans (by exact Pz hno hl3)) (λ a ha=>hdone.uniq hlst (by exact Ob hno hl3 ha)) i3.us i3.abR (hn3.symm▸W) (λ z l lB gl hcov bb=>?_) ⟨l2,rfl,l5⟩ l7 l6 ⟨q4,by rw[hn3];exact hR4,hHd,E4 _ _ _ rfl (E3 _ _ _ rfl hEl)⟩ (E4 _ _ _ rfl (E3 _ _ _ rfl hKp)) λ k hk=>?_
 ·rw[hn3]
  refine hgm _ (λ a ha=>?_) z l lB gl hcov bb
  have ha3:a<M3.up.length:=by exact I1 hno hl3 ha
  obtain ⟨_,h2,h3⟩:=dW o3.up ha3
  exact ⟨h2,hZ o3.up h3⟩
 ·obtain ⟨V,l,e,ok⟩:=ko k hk
  exact ⟨V,l,e,(ok.ext E3 λ i h=>by unfold En eO;simp;exact K5 h).ext E4 λ _ _=>rfl⟩
end
section
variable {c:Cx} {env:Env} {loc:aV} {σ σ':aF}
theorem J4 {x:Str} {a:Addr} {p pos:Pos} {args:List Expr} {Φ:AV→aF→Prop} (e:Lp (KK c.w) x a=true) (hk:env.kindOf x=some .globalImplicit) (h:iG c env loc σ pos args λ as σ₂=>WC c env loc σ₂ (.ref a) as Φ)
  (hd:(x==("__debug__":Str))=false:=by decide)
  (hform:eval (.Call (.Name x p) args [] pos) env=(do callWith pos (←eval (.Name x p) env) [] (backTo pos (starEach args env)) []):=by rfl)
  (hp:(backTo pos (starEach args env)).any (·.1)=false:=by rfl):WE c env loc σ (.Call (.Name x p) args [] pos) Φ:=by
 unfold Lp at e
 rw[Bool.and_eq_true] at e
 obtain ⟨e1,e2⟩:=e
 refine wX (vD (v:=.ref a) ?_ hk ⟨.ref a,rfl,A3 e2,h⟩ hd) hform hp
 split at e1
 ·rename_i b e3;rw[beq_iff_eq] at e1;subst e1;exact e3
 ·cases e1
theorem Hk (w:World):(makesIn (KK w) 66=true∧findIn (KK w) (.ref 66) "__init__"=some (some (.builtin "object.__init__")))∧makesIn (KK w) 45=true∧findIn (KK w) (.ref 45) "__init__"=some (some (.builtin "object.__init__")):=⟨⟨by kernel_rfl,by kernel_rfl⟩,by kernel_rfl,by kernel_rfl⟩
theorem aI.old {L:HL} {M:HM} (q:aI L M σ) (o:lW σ σ'):aI L M σ':=q.more o
theorem cL.old {k:Nat} {L:HL} {a:KA} {z:Bool} {V:Addr} {l:Dt} (r:cL k L a z V l σ) (o:lW σ σ'):cL k L a z V l σ':=⟨o _ _ r.x,o _ _ r.d,o _ _ r.v,o _ _ r.an,o _ _ r.da⟩
theorem lU.old {ns0:iT} {N:Nat} {r0 wt:Nat→Nat} {L:HL} {a:KA} {E:Addr} {k:Nat} {V:Addr} {l e:Dt} (k0:lU ns0 N r0 wt L a E k V l e σ) (o:lW σ σ'):lU ns0 N r0 wt L a E k V l e σ':=⟨k0.rep.old o,k0.dl,k0.g,k0.cov,o _ _ k0.hE,k0.de,k0.eq⟩
end
inductive J9 (M:HM) (N:Nat) (L:HL) (a:Nat→KA) (R Hd El Kp Ch:Addr) (ch:AO) (i:Nat) (loc:aV) (σ:aF):Prop
 | mk (c1:(pB R Hd El loc∧loc z46=some (.ref (L 1))∧loc z168=some (.ref Ch)∧loc z229=some (.ref Kp))) (c2:σ Ch=some (.t 21,ch)) (E:Nat→Addr) (c3:tA L M (List.range N) E R Hd El i σ) (c4:(∀k,k<i→∃V l e,lU M.nodes N (root M.up) (xB M N) L (a k) (E k) k V l e σ)) (c5:∀k,i≤k→k<2→∃V,cL k L (a k) (zK k) V [] σ):J9 M N L a R Hd El Kp Ch ch i loc σ
noncomputable def sI (x:Int):Int:=(if x<0 then-x else x).fmod 1000003
section
variable {c:Cx} {K fa:Addr} {cd:Value} {loc:aV} {σ:aF}
theorem La (hc:12≤c.n) {sl:Addr} {items:Array Value} {sc:List Int} (hL:c.h₀.IsList sl items) (hz:items.size≤100000) (hv:∀h:Heap,aO h (aS sc) items.toList) (hl:loc z226=some (.ref sl)):
  WS c (lI K fa cd) loc σ (execs sN (lI K fa cd)) (Gr λ r _=>r= .bool true):=by
 have hc10:10≤c.n:=by exact BI hc
 refine aE (aJ (aU (bV (.t 0) (aA (aY (aB ⟨by simp,λ D0 h0=>?_⟩))))))
 refine bW (cl:=[]) (bY.of (by kernel_rfl) rfl nn .nil) (.t 0) (Ie (.t 0) (aC hl rfl ⟨sl,items,aS sc,rfl,hL,hz,hv,λ D1 h1=>?_⟩))
 rw[show (aS sc).take 40=aS (sc.take 40) from (List.map_take ..).symm]
 obtain ⟨σ0,hσ0⟩:∃σ0,σ0=(σ.put D0 (.t 0,.list [.int 0])).put D1 (.t 0,.list (aS (sc.take 40))):=⟨_,rfl⟩
 rw[←hσ0]
 have t1:σ0 D1=some (.t 0,.list (aS (sc.take 40))):=by rw[hσ0];exact aF.put_same ..
 have t0:σ0 D0=some (.t 0,.list [.int 0]):=by rw[hσ0];exact aF.put_new _ h1 (aF.put_same ..)
 have n01:D0≠D1:=λ e=>by rw[←e,aF.put_same] at h1;cases h1
 have lt:(sc.take 40).length≤40:=by rw[List.length_take];exact Vn
 refine ⟨_,_,eU rfl t1,by rw[aN];exact Me lt,λ i acc σ'=>σ0.del D1=σ'∧acc=aS (((sc.take 40).take i).map sI),⟨⟨rfl,rfl⟩,?_⟩,?_⟩
 ·rintro C i y acc _ hy ⟨rfl,rfl⟩
  rw[aS,List.getElem?_map] at hy
  obtain ⟨x,hx,rfl⟩:=Option.map_eq_some_iff.mp hy
  refine aU (bP (cE c.w 5 rfl) rfl aK (aA (aC (if_pos rfl) rfl (aB (Gh (aY (Aw ⟨rfl,?_⟩ (by decide))))))))
  rw[List.take_add_one (i:=i),hx,List.map_append,←dG];rfl
 rintro acc _ D2 ⟨rfl,rfl⟩ hl2 hD2
 rw[aN,List.take_length]
 have t0':((σ0.del D1).put D2 (.t 0,.list (aS ((sc.take 40).map sI)))) D0=some (.t 0,.list [.int 0]):=by
  refine aF.put_new _ hD2 ?_
  unfold aF.del;rw[if_neg n01];exact t0
 refine mF (.t 21) t0' (aF.put_same ..) (by rw[aN,List.length_map,List.length_singleton];exact Zz lt) λ Ch hCh=>cP rfl rfl ?_
 have c1:=aF.put_same ((σ0.del D1).put D2 (.t 0,.list (aS ((sc.take 40).map sI)))) Ch (.t 21,.list (aS (((0:Nat):Int)::(sc.take 40).map sI)))
 show WS _ _ _ (((σ0.del D1).put D2 (.t 0,.list (aS ((sc.take 40).map sI)))).put Ch (.t 21,.list (aS (((0:Nat):Int)::(sc.take 40).map sI)))) _ _
 obtain ⟨rest,hrest⟩:∃rest,rest=(sc.take 40).map sI:=⟨_,rfl⟩
 have hrl:rest.length≤40:=by rw[hrest,List.length_map];exact lt
 rw[←hrest] at c1⊢
 generalize ((σ0.del D1).put D2 (.t 0,.list (aS rest))).put Ch (.t 21,.list (aS (((0:Nat):Int)::rest)))=σ1 at c1⊢
 clear t0' t0 t1 hσ0
 refine aE (aJ (fF (lV 11 rfl) rfl (aA (aC rfl rfl (aB ?_)))))
 refine Gi (b:=0) (by exact BG hc) c1 (by decide) (by exact Nat.le_trans ‹_› (Nat.le_of_ble_eq_true rfl)) λ σ2 L M N R b hb q g hR hC=>cX (cP rfl rfl (cP rfl rfl ?_)) rfl
 refine aE (aJ (bV (.t 22) (aA (fF (lV 3 rfl) rfl (aA (aC rfl rfl (aA (J4 (lV 4 rfl) rfl (aB ?_)))))))))
 refine Cj (.u 6 0) (.u 7 0) (Hk c.w).1.1 (Hk c.w).1.2 λ A0 d0 Vs hA0=>aB ?_
 have p0:=Mk.new (t:=.u 6 0) (t':=.u 7 0) (C:=66) Vs hA0 (dK rfl)
 refine rE (z:=zK 0) (by exact Qg hc) 0 (q.old p0.old) p0.x p0.dd λ σ3 a0 V0 o3 r0=>?_
 refine aA (fF (lV 3 rfl) rfl (aA (aC rfl rfl (aA (J4 (lV 5 rfl) rfl (aB ?_))))))
 refine Cj (.u 6 1) (.u 7 1) (Hk c.w).2.1 (Hk c.w).2.2 λ A1 d1 hd1 hA1=>aB ?_
 have p1:=Mk.new (t:=.u 6 1) (t':=.u 7 1) (C:=45) hd1 hA1 (dK rfl)
 have o4:=(p0.old.trans o3).trans p1.old
 refine rE (z:=zK 1) (by exact Qg hc) 1 (q.old o4) p1.x p1.dd λ σ5 a1 V1 o5 r1=>aB ⟨by simp,λ Kp hKp=>cP rfl rfl ?_⟩
 have o6:=(o4.trans o5).put (y:=(.t 22,.list [.ref a0.X,.ref a1.X])) hKp
 have q6:=q.old o6
 have r0':=r0.old ((p1.old.trans o5).put (y:=(.t 22,.list [.ref a0.X,.ref a1.X])) hKp)
 have r1':=r1.old ((lW.refl σ5).put (y:=(.t 22,.list [.ref a0.X,.ref a1.X])) hKp)
 have hR6:=o6 _ _ hR
 have hC6:=o6 _ _ hC
 obtain ⟨a,ha⟩:∃a:Nat→KA,a=λ k=>if k=0 then a0 else a1:=⟨_,rfl⟩
 have hK6:(σ5.put Kp (.t 22,.list [.ref a0.X,.ref a1.X])) Kp=some (.t 22,.list (gP (λ k=>(a k).X) 2)):=by rw[ha];exact aF.put_same ..
 have rr:∀k,k<2→∃V,cL k L (a k) (zK k) V [] (σ5.put Kp (.t 22,.list [.ref a0.X,.ref a1.X])):=λ k hk=>by
  by_cases h:k=0
  ·subst h;rw[ha];exact ⟨V0,r0'⟩
  ·obtain rfl:k=1:=by exact AT hk h
   rw[ha];exact ⟨V1,r1'⟩
 generalize σ5.put Kp (.t 22,.list [.ref a0.X,.ref a1.X])=σ6 at*
 have hno:=g.nodes
 have hNf:=g.nf
 have hN1:=g.one
 have hNl:(bQ M.nodes).length=N:=eW.trans hno
 refine aE (eI rfl rfl rfl (oQ rfl) (oQ rfl) (aZ (aA (bP (cE c.w 6 rfl) rfl bN (aA (bP (wP c.w) rfl bN (aA (bP (cZ c.w) rfl aK (aA (aC rfl rfl (aB (bK hR6 (by exact Ji hNf hNl) (aB ?_)))))))))))))
 rw[hNl]
 refine jD (.t 0) λ Rg hRg=>aB (lX (.t 23) (aF.put_same ..) (by exact Int.natCast_nonneg _) (by exact Z5 hNf) λ Hd hHd=>aA (bV (.t 31) (aB ⟨by simp,λ El hEl=>aB ⟨by simp,_,_,rfl,?_⟩⟩)))
 rw[xM] at hEl⊢
 have o7:=(((lW.refl σ6).put (y:=(.t 0,.range 0 (N:Int))) hRg).put (y:=(.t 23,.list (aS (aQ (List.range N))))) hHd).put (y:=(.t 31,.list [])) hEl
 have h7:=aF.put_new (.t 31,.list []) hEl (aF.put_same (σ6.put Rg (.t 0,.range 0 (N:Int))) Hd (.t 23,.list (aS (aQ (List.range N)))))
 have e7:=aF.put_same ((σ6.put Rg (.t 0,.range 0 (N:Int))).put Hd (.t 23,.list (aS (aQ (List.range N))))) El (.t 31,.list [])
 have q7:=q6.old o7
 have hR7:=o7 _ _ hR6
 have hC7:=o7 _ _ hC6
 have hK7:=o7 _ _ hK6
 have rr7:∀k,k<2→∃V,cL k L (a k) (zK k) V [] _:=λ k hk=>let ⟨V,r⟩:=rr k hk;⟨V,r.old o7⟩
 generalize ((σ6.put Rg (.t 0,.range 0 (N:Int))).put Hd (.t 23,.list (aS (aQ (List.range N))))).put El (.t 31,.list [])=σ7 at*
 have E5:bD Hl σ7 (σ7.del Kp):=(bD.refl σ7).del hK7 rfl
 refine aE (qE rfl hK7 (J9 M N L a R Hd El Kp Ch (.list (aS ((b:Int)::rest)))) ⟨⟨⟨rfl,rfl,rfl⟩,rfl,rfl,rfl⟩,E5 _ _ _ rfl hC7,λ _=>0,⟨q7.extP E5 (λ n h1 h2=>by unfold Hl;simp;exact Mh h2) (λ i=>rfl) λ i=>rfl,E5 _ _ _ rfl hR7,E5 _ _ _ rfl h7,E5 _ _ _ rfl e7⟩,λ k hk=>absurd hk (Nat.not_lt_zero _),λ k _ hk=>?_⟩ ?_ ?_)
 ·obtain ⟨V,r⟩:=rr7 k hk
  exact ⟨V,r.extP E5 λ _ _ _=>rfl⟩
 ·rintro i y loc σ' hyr ⟨⟨l1,l2,l3,l4⟩,hC8,E,s8,ko,kr⟩
  obtain ⟨hi,rfl⟩:=yP hyr
  obtain ⟨V,r⟩:=kr i (Nat.le_refl _) hi
  refine cX (cP rfl rfl (cP rfl rfl ?_)) rfl
  refine C3 hc10 g hi ⟨l1.r,l1.h,l1.e⟩ rfl rfl s8 r λ σ'' V' l e D E6 s9 k9=>?_
  have off:∀k,k≠i→∀j,3≤j→Ad i (.u j k)=false:=λ k hk j hj=>Bool.or_eq_false_iff.mpr ⟨Fs hj hk,rfl⟩
  refine ⟨⟨⟨l1.r,l1.h,l1.e⟩,l2,l3,l4⟩,E6 _ _ _ rfl hC8,_,s9,λ k hk=>?_,λ k h1 h2=>?_⟩
  ·by_cases h:k=i
   ·subst h
    rw[if_pos rfl];exact ⟨V',l,e,k9⟩
   ·obtain ⟨V,l,e,k0⟩:=ko k (by exact uR hk h)
    rw[if_neg h];exact ⟨V,l,e,k0.ext E6 (off k h)⟩
  ·obtain ⟨V,r⟩:=kr k (by exact Nat.le_of_lt ‹_›) h2
   exact ⟨V,r.extP E6 λ j hj _=>off k (by exact Nat.ne_of_gt ‹_›) j hj⟩
 rintro loc σ8 ⟨⟨⟨l1,l5,l6⟩,l2,l3,l4⟩,hC8,E,⟨q8,hR8,_,hEl8⟩,ko8,_⟩ hn8
 have o9:=(lW.refl σ8).put (y:=(.t 22,.list (gP (λ k=>(a k).X) 2))) hn8
 have hK9:=aF.put_same σ8 Kp (.t 22,.list (gP (λ k=>(a k).X) 2))
 have q9:=q8.old o9
 have hR9:=o9 _ _ hR8
 have hC9:=o9 _ _ hC8
 have hE9:=o9 _ _ hEl8
 have ko9:∀k,k<2→∃V l e,lU M.nodes N (root M.up) (xB M N) L (a k) (E k) k V l e (σ8.put Kp (.t 22,.list (gP (λ k=>(a k).X) 2))):=λ k hk=>let ⟨V,l,e,k0⟩:=ko8 k hk;⟨V,l,e,k0.old o9⟩
 generalize σ8.put Kp (.t 22,.list (gP (λ k=>(a k).X) 2))=σ9 at*
 refine aE (eI rfl rfl rfl (oQ rfl) (oQ rfl) (aZ (aA (bP (cZ c.w) rfl aK (aA (aC l1 rfl (aB (bK hR9 (by exact Ji hNf hNl) (aA (bV (.t 24) (aB ⟨by simp,λ P hP=>aB ⟨by simp,_,_,rfl,?_⟩⟩)))))))))))
 rw[hNl]
 have oA:=(lW.refl σ9).put (y:=(.t 24,.list (bU []))) hP
 have hPA:=aF.put_same σ9 P (.t 24,.list (bU []))
 have qA:=q9.old oA
 have hRA:=oA _ _ hR9
 have hCA:=oA _ _ hC9
 have hEA:=oA _ _ hE9
 have hKA:=oA _ _ hK9
 have koA:∀k,k<2→∃V l e,lU M.nodes N (root M.up) (xB M N) L (a k) (E k) k V l e (σ9.put P (.t 24,.list (bU []))):=λ k hk=>let ⟨V,l,e,k0⟩:=ko9 k hk;⟨V,l,e,k0.old oA⟩
 show WS _ _ _ (σ9.put P (.t 24,.list (bU []))) _ _
 generalize σ9.put P (.t 24,.list (bU []))=σA at*
 refine aE (bA (fF (lV 8 rfl) rfl (aA (aC l2 rfl (aA (aC l1 rfl (aA (fB (aA (aZ (aA (fF (lV 7 rfl) rfl (aA (aC l3 rfl (aA (aC rfl rfl (aB ?_)))))))))))))))))
 refine gJ (m:=N) (by exact Nat.zero_lt_of_lt ‹_›) hCA (by exact Nat.le_trans ‹_› (Nat.le_of_ble_eq_true rfl)) (by exact Nat.le_trans ‹_› (Nat.le_of_ble_eq_true rfl)) (by exact Nat.zero_lt_of_lt ‹_›) λ x hx=>aB ⟨by simp,aB ?_⟩
 have qB:=qA.putO (y:=.list (aS (((b+1:Nat):Int)::rest))) hCA rfl
 have EB:bD (· == .t 21) σA (σA.put Ch (.t 21,.list (aS (((b+1:Nat):Int)::rest)))):=(bD.refl σA).put (.inr ⟨_,_,rfl,hCA⟩)
 have hCB:=aF.put_same σA Ch (.t 21,.list (aS (((b+1:Nat):Int)::rest)))
 have hRB:=EB _ _ _ rfl hRA
 have hEB:=EB _ _ _ rfl hEA
 have hKB:=EB _ _ _ rfl hKA
 have hPB:=EB _ _ _ rfl hPA
 have koB:∀k,k<2→∃V l e,lU M.nodes N (root M.up) (xB M N) L (a k) (E k) k V l e (σA.put Ch (.t 21,.list (aS (((b+1:Nat):Int)::rest)))):=λ k hk=>let ⟨V,l,e,k0⟩:=koA k hk;⟨V,l,e,k0.ext EB λ _ _=>rfl⟩
 generalize σA.put Ch (.t 21,.list (aS (((b+1:Nat):Int)::rest)))=σB at*
 have h0:∀a,a<M.nodes.length→root M.up a=a:=λ a ha=>by rw[g.up];exact dY (hno▸ha)
 have hkd:∀n k,n<M.nodes.length→k∈aL M.nodes n→k<M.nodes.length:=λ n k hn hk=>Nat.lt_trans (g.toSgl0.kids_lt n k hn hk) hn
 have w40:∀n,xB M N n≤1540:=λ n=>by
  unfold xB
  split
  ·have:=(g.wts n).2;exact BR this
  ·exact Nat.le_refl _
 have wN:∀n,M.nodes.length≤n→xB M N n=1540:=λ n hn=>if_neg (by exact P5 hno hn)
 have ht:=g.t39
 refine fL (ks:=[(x:Int)]) (by exact BH hc) qB g.toSgl (by exact Nat.le_trans ‹_› (Nat.le_of_ble_eq_true rfl)) (λ y hy=>by have:=g.w y hy;exact BX this) hRB (by kernel_rfl) (by decide) (by simp) (λ k hk=>by rw[List.mem_singleton.mp hk];exact xX hx) (by rw[List.length_singleton];exact Z3 ht) (λ i hi e=>?_) λ σC M' _ EC qC gC nC wC tC rC=>?_
 ·exact Es hc10 (b:=b+1) (a:=a) (E:=E) g.toSgl (by exact Nat.le_succ_of_le ‹_›) hN1 (Nat.le_refl _) g.wtok (by exact Nat.lt_of_le_of_lt ‹_› (Nat.le_of_ble_eq_true rfl)) (by exact Nat.le_trans ‹_› (Nat.le_of_ble_eq_true rfl)) (λ r hr z l lB gl hcov bb=>gl.merged h0 (λ n hn=>hcov n (hno▸hn)) (λ _ _=>rfl) (Nat.le_refl _) (Nat.le_succ _) hkd hr w40 wN bb) ⟨l2,l1,l3,rfl,l6,l4,rfl⟩ qB hRB hCB hPB hEB hKB koB
 ·have hl':M'.nodes.length=M.nodes.length+1:=by rw[nC,List.length_append];rfl
  refine Es hc10 (b:=b+1) (a:=a) (E:=E) gC (by exact Nat.lt_succ_of_le ‹_›) (by exact Nat.lt_succ_of_lt ‹_›) (Nat.le_succ _) (g.wtok1 nC rfl hx) (by exact Nat.lt_of_le_of_lt ‹_› (Nat.le_of_ble_eq_true rfl)) (by exact Nat.le_trans ‹_› (Nat.le_of_ble_eq_true rfl)) (λ r hr z l lB gl hcov bb=>gl.merged h0 (λ n hn=>hcov n (hno▸hn)) (λ n hn=>?_) (by exact Jm hl') (by exact Nat.le_of_eq ‹_›) hkd hr w40 wN bb) ⟨l2,l1,l3,rfl,l6,l4,rfl⟩ qC rC (EC _ _ _ rfl hCB) (EC _ _ _ rfl hPB) (EC _ _ _ rfl hEB) (EC _ _ _ rfl hKB) λ k hk=>?_
  ·unfold aL;rw[nC,List.getD_eq_getElem?_getD,List.getD_eq_getElem?_getD,List.getElem?_append_left hn]
  ·obtain ⟨V,l,e,k0⟩:=koB k hk
   exact ⟨V,l,e,k0.ext EC λ j hj=>by unfold L5 eO;simp;exact K5 hj⟩
end
theorem Hz:∀{vs:List Value} {sc:List Int},IntsAre vs sc→∀h:Heap,aO h (aS sc) vs:=by
 intro vs sc h
 induction h with
 | nil=>exact λ h=>.nil
 | cons n t _ ih=>exact λ h=>.cons (by rw[VIs_int];exact ⟨t,rfl⟩) (ih h)
theorem Vz {w:World} {s1:Shared} {prog:Program} {mg mb:Str→Option Value} {A:Around} {fa wl:Addr} {cd:Value} {vs:List Value} {sc:List Int} {h₁:Heap} {m:Str→Option Value} {Q:Flow→Shared→Prop} {E:Value→Shared→Prop} (kx:(KK w).In s1.heap) (lim:s1.heap.NoLimit)
  (g0:s1.heap.Ns mainGlobals mg) (b0:s1.heap.Ns builtinsNs mb) (bb:∀x:Str,x≠"__name__"→mb x=bootBuiltins x) (a1:A.handled=none) (a2:A.depth+36<recursionLimit) (a3:A.units+164<cLine) (hg:s1.gens=#[]) (hL:s1.heap.IsList wl vs.toArray) (hI:IntsAre vs sc) (hz:vs.length≤63)
  (F:Fr s1.heap s1.heap.objs.size h₁ m) (hm:m z226=some (.ref wl)) (hm':∀x,x≠z226→m x=none) {s:Shared} (e1:s.heap=h₁) (e2:s.gens=s1.gens) (e3:s.os=s1.os)
  (hQ:∀s':Shared,(∀b o,s1.heap.get? b=some o→s'.heap.get? b=some o)→s'.os=s1.os→s'.gens=#[]→Q (.ret (.bool true)) s'):
  wpAny (model prog w) A (execs sN (lI s1.heap.objs.size fa cd)) Q E s:=by
 have none:s1.heap.get? s1.heap.objs.size=Option.none:=by
  cases e:s1.heap.get? s1.heap.objs.size with
  | none=>rfl
  | some o=>exact absurd (Heap.lt_size e) (Nat.lt_irrefl _)
 have q:bJ ⟨prog,w,s1.heap,s1.os,A,12⟩ (lI s1.heap.objs.size fa cd) (λ x=>if x=z226 then some (.ref wl) else Option.none) (λ _=>Option.none) (λ _=>Option.none) s:={
  base:=⟨kx,lim,⟨mg,mb,g0,b0,bb⟩,a1,a2,a3⟩
  keep:=λ b o h=>e1▸F.keep b o h
  obj:=λ a t ao h=>by cases h
  own:=λ a x h=>by cases h
  hid:=λ a o h=>by cases h
  gens:=e2.trans hg
  os:=e3
  fr:={
   kind:=by kernel_rfl
   glob:=rfl
   bu:=rfl
   locs:=⟨m,e1▸F.ns,λ x _=>by
    by_cases h:x=z226
    ·subst h;rw[if_pos rfl];exact ⟨_,hm,by rw[VIs_ref]⟩
    ·rw[if_neg h];exact hm' x h⟩
   lown:=⟨none,rfl,rfl⟩
   cell:=λ x a h=>by cases h
   cown:=λ x a h=>by cases h
   capart:=.nil
   above:=λ b o h=>Heap.lt_size h} }
 refine Gy (La (c:=⟨prog,w,s1.heap,s1.os,A,12⟩) (sl:=wl) (items:=vs.toArray) (Nat.le_refl 12) hL (by simp;exact Zw hz) (λ h=>by rw[List.toList_toArray];exact Hz hI h) (if_pos rfl) _ s q) (λ fl s2 af l σ2 hf hz4 q2 e₂=>?_)
 obtain ⟨av,hr,rfl⟩:=hz4
 cases af with
 | ret a=>
  obtain ⟨v,rfl,hv⟩:=hf
  have:a= .bool true:=hr
  subst this
  rw[VIs_bool] at hv
  subst hv
  exact hQ s2 q2.keep q2.os q2.gens
 | next=>cases hr
 | brk=>cases hr
 | cont=>cases hr
theorem Fp:qY.body=sN:=by
 show bE (bI PySem.Challenge.pw_sa0037_01 22)=bE (bI PT 22)
 rw[pT]
theorem Da:qY.scope=jM (bI PT 22):=by
 show jM (bI PySem.Challenge.pw_sa0037_01 22)=jM (bI PT 22)
 rw[pT]
theorem Fo:qY.name=z173:=Ko
theorem Vq {w:World} {h:Heap} (x:(Lj w.params).In h):(KK w).In h:=by
 have e:Lj=KF PT:=by unfold Lj;rw[pT]
 rw[e] at x;exact x
set_option maxHeartbeats 8000000 in
set_option pp.maxSteps 20000 in
theorem fin:PySem.Challenge.rw_sa0037_01.Holds:=by
 refine Vs ?_
 intro w s0 s1 mg mb G Y fa o pm cd doc dV kV ho hd hcd hD hmg hg args vals as hpre hlay hrd hwl hlo
 have KX:=Vq (kIn_of Y)
 refine Ground.open G ?_
 intro T B D TE TW
 try (refine guard_noD D (by decide+kernel) ?_;clear D)
 obtain ⟨_,_,M⟩:=bmod_of_top T
 have TA:=at_of_top T
 try (obtain ⟨_,_,he,B0⟩:=based_of_top T rfl hmg ho hd;have he':cd=_:=he;subst he';clear he)
 wrow_args hpre hlay hrd hwl hlo
 rename_i sc hs hl0 hL1 hr1 hl2 _ _ wl vs _ hL ra w1 r0 hI hr hlen hT
 refine enter_call ?_
 w_top on
 refine codeAny_mono ?_ (λ _ _ g=>GoodW.toG g)
 have K0:=below_caller (Top.heap T)
 w_call any ho hd hcd hD T F
 rw[Fp,Da,Fo]
 have hlen':=hI.length
 refine Vz KX T.nolimit T.g T.b T.builtins rfl (Nat.le_of_ble_eq_true (by kernel_rfl)) (Nat.le_of_ble_eq_true (by kernel_rfl)) hg hL hI (by exact R7 hlen hlen') F rfl (λ x hx=>?_) rfl rfl rfl λ s' h1 h2 h3=>?_
 ·show List.lookup x [(z226,Value.ref wl)]=none
  rw[List.lookup_cons,show (x==z226)=false from beq_eq_false_iff_ne.mpr hx];rfl
 ·refine ⟨.inl ⟨_,_,[],rfl,raisesW_false ?_,.bool true,?_,unshared_nil⟩,h1,h2,h3⟩
  ·wrow_none_raised
  ·wrow_post
end
end Mine
set_option maxHeartbeats 8000000 in
theorem PySem.Challenge.cw_sa0037_01_holds : PySem.Challenge.rw_sa0037_01.Holds :=
  Mine.fin
