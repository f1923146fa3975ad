import PyProof.Rows.All
import PySem.Syntax
import Wide.All
import OpenK.AllK
import KE.KDictOf
import KE.BytesMake
import KE.KRevIter
import Lean
import PySem.Challenge.RW_up0077_01
set_option Elab.async false
set_option tactic.hygienic false
set_option backward.match.sparseCases false
set_option maxRecDepth 100000
set_option maxHeartbeats 0
set_option linter.all false
set_option bootstrap.genMatcherCode false
set_option genSizeOf false
set_option genSizeOfSpec false
set_option genInjectivity false
noncomputable section
namespace Mine
theorem or4 {x a b c d n:Nat} (h:x=a∨x=b∨x=c∨x=d) (ha:a<n) (hb:b<n) (hc:c<n) (hd:d<n):x<n:=by
 rcases h with rfl|rfl|rfl|rfl<;>assumption
theorem oqa {n i k:Nat} (ek:k=n- i) (h:i<n):n- (i+1)<k:=ek ▸ Nat.sub_lt_sub_left h (Nat.lt_succ_self i)
theorem oqb {n i k:Nat} (ek:k+1=n- i):i<n:=Nat.lt_of_sub_eq_succ ek.symm
theorem oqc {n i k:Nat} (ek:k+1=n- i):k=n- (i+1):=by rw [Nat.sub_add_eq,←ek];rfl
theorem oqd {n i:Nat} (ek:0=n- i) (hi:i≤n):n=i:=Nat.le_antisymm (Nat.sub_eq_zero_iff_le.mp ek.symm) hi
theorem oqe {b n a c:Nat} (h1:b≤64) (h2:n≤64):min a n- 0+b+(min n n- c)≤1000:=Nat.le_trans (Nat.add_le_add (Nat.add_le_add (Nat.le_trans (Nat.sub_le _ _) (Nat.le_trans (Nat.min_le_right _ _) h2)) h1) (Nat.le_trans (Nat.sub_le _ _) (Nat.le_trans (Nat.min_le_right _ _) h2))) (by decide)
theorem oqf {p l q s:Nat} (e:p+q=s) (h:s≤64):min p l+q≤64:=Nat.le_trans (Nat.add_le_add_right (Nat.min_le_left _ _) _) (e ▸ h)
theorem oqg {v i:Nat} (h:i<v):v- 1- i<v:=Nat.lt_of_le_of_lt (Nat.sub_le _ _) (Nat.sub_lt (Nat.lt_of_le_of_lt (Nat.zero_le _) h) Nat.one_pos)
theorem oqh {a b c:Nat}:min (a- b) c≤a:=Nat.le_trans (Nat.min_le_left _ _) (Nat.sub_le _ _)
theorem oqi {a c:Nat} (h:min a c<a):c<a:=Nat.lt_of_not_le fun q=>absurd h (by rw [Nat.min_eq_left q];exact Nat.lt_irrefl _)
theorem oqj {m e:Nat} (h:e<m):m- e=(m- e- 1)+1:=(Nat.sub_add_cancel (Nat.sub_pos_of_lt h)).symm
theorem oqk {m e h k:Nat} (hl:e+1=h) (hk:m- e=k+1):m- h=k:=by rw [←hl,Nat.sub_add_eq,hk];rfl
theorem oql {m h:Nat} (H:h≤m):((m:Int)- h).toNat=m- h:=by rw [←Int.ofNat_sub H];rfl
theorem oqm {x n j k m:Nat} (h:x≤n) (e:n+j+k≤m):x+j+k≤m:=Nat.le_trans (Nat.add_le_add_right (Nat.add_le_add_right h j) k) e
theorem oqn {p o s:Nat} (h:o=s) (g:p<s):p+(o- p)=s:=(Nat.add_sub_of_le (h ▸ Nat.le_of_lt g)).trans h
theorem oqo {h m l k:Nat} (H:h≤m) (K:m≤k):h+min (m- h) l≤k:=Nat.le_trans (Nat.le_trans (Nat.add_le_add_left (Nat.min_le_left _ _) _) (Nat.le_of_eq (Nat.add_sub_of_le H))) K
theorem oqp {v i:Nat} (h:i<v):(v:Int)- 1- (i:Int)=((v- 1- i:Nat):Int):=by rw [Int.ofNat_sub (Nat.le_sub_one_of_lt h),Int.ofNat_sub (Nat.lt_of_le_of_lt (Nat.zero_le _) h)];rfl
theorem oqr {i j:Nat} (hk:j- i=0) (h:i≤j):i=j:=Nat.le_antisymm h (Nat.sub_eq_zero_iff_le.mp hk)
theorem qrh {B:Prop} (h: ∀G:Prop,(B→G)→G):B:=h B id
theorem qa1 {P0 P1:Prop} {G:Prop} (h:P0∧P1) (r:P0→P1→G):G:=r h.1 h.2
theorem qeg {P0 P1 P2:Prop} {G:Prop} (h:P0∧P1∧P2) (r:P0→P1→P2→G):G:=qa1 h.2 (r h.1)
theorem ql4 {P0 P1 P2 P3:Prop} {G:Prop} (h:P0∧P1∧P2∧P3) (r:P0→P1→P2→P3→G):G:=qeg h.2 (r h.1)
theorem qnr {P0 P1 P2 P3 P4:Prop} {G:Prop} (h:P0∧P1∧P2∧P3∧P4) (r:P0→P1→P2→P3→P4→G):G:=ql4 h.2 (r h.1)
theorem qx9 {P0 P1 P2 P3 P4 P5:Prop} {G:Prop} (h:P0∧P1∧P2∧P3∧P4∧P5) (r:P0→P1→P2→P3→P4→P5→G):G:=qnr h.2 (r h.1)
theorem qo8 {P0 P1 P2 P3 P4 P5 P6:Prop} {G:Prop} (h:P0∧P1∧P2∧P3∧P4∧P5∧P6) (r:P0→P1→P2→P3→P4→P5→P6→G):G:=qx9 h.2 (r h.1)
theorem qya {P0 P1 P2 P3 P4 P5 P6 P7:Prop} {G:Prop} (h:P0∧P1∧P2∧P3∧P4∧P5∧P6∧P7) (r:P0→P1→P2→P3→P4→P5→P6→P7→G):G:=qo8 h.2 (r h.1)
theorem qaj {T0:Sort _} {P0:T0→Prop} {G:Prop} (h: ∃a,P0 a) (r: ∀a,P0 a→G):G:=h.elim r
theorem qac {T0:Sort _} {P0 P1:T0→Prop} {G:Prop} (h: ∃a,P0 a∧P1 a) (r: ∀a,P0 a→P1 a→G):G:=h.elim fun a h=>qa1 h (r a)
theorem qao {T0:Sort _} {P0 P1 P2:T0→Prop} {G:Prop} (h: ∃a,P0 a∧P1 a∧P2 a) (r: ∀a,P0 a→P1 a→P2 a→G):G:=h.elim fun a h=>qeg h (r a)
theorem qt1 {T0:Sort _} {P0 P1 P2 P3:T0→Prop} {G:Prop} (h: ∃a,P0 a∧P1 a∧P2 a∧P3 a) (r: ∀a,P0 a→P1 a→P2 a→P3 a→G):G:=h.elim fun a h=>ql4 h (r a)
theorem ex1_5 {T0:Sort _} {P0 P1 P2 P3 P4:T0→Prop} {G:Prop} (h: ∃a,P0 a∧P1 a∧P2 a∧P3 a∧P4 a) (r: ∀a,P0 a→P1 a→P2 a→P3 a→P4 a→G):G:=h.elim fun a h=>qnr h (r a)
theorem ex1_6 {T0:Sort _} {P0 P1 P2 P3 P4 P5:T0→Prop} {G:Prop} (h: ∃a,P0 a∧P1 a∧P2 a∧P3 a∧P4 a∧P5 a) (r: ∀a,P0 a→P1 a→P2 a→P3 a→P4 a→P5 a→G):G:=h.elim fun a h=>qx9 h (r a)
theorem ex1_7 {T0:Sort _} {P0 P1 P2 P3 P4 P5 P6:T0→Prop} {G:Prop} (h: ∃a,P0 a∧P1 a∧P2 a∧P3 a∧P4 a∧P5 a∧P6 a) (r: ∀a,P0 a→P1 a→P2 a→P3 a→P4 a→P5 a→P6 a→G):G:=h.elim fun a h=>qo8 h (r a)
theorem ex1_8 {T0:Sort _} {P0 P1 P2 P3 P4 P5 P6 P7:T0→Prop} {G:Prop} (h: ∃a,P0 a∧P1 a∧P2 a∧P3 a∧P4 a∧P5 a∧P6 a∧P7 a) (r: ∀a,P0 a→P1 a→P2 a→P3 a→P4 a→P5 a→P6 a→P7 a→G):G:=h.elim fun a h=>qya h (r a)
theorem qic {T0:Sort _} {T1:Sort _} {P0:T0→T1→Prop} {G:Prop} (h: ∃a b,P0 a b) (r: ∀a b,P0 a b→G):G:=h.elim fun a h=>qaj h (r a)
theorem qcv {T0:Sort _} {T1:Sort _} {P0 P1:T0→T1→Prop} {G:Prop} (h: ∃a b,P0 a b∧P1 a b) (r: ∀a b,P0 a b→P1 a b→G):G:=h.elim fun a h=>qac h (r a)
theorem qfj {T0:Sort _} {T1:Sort _} {P0 P1 P2:T0→T1→Prop} {G:Prop} (h: ∃a b,P0 a b∧P1 a b∧P2 a b) (r: ∀a b,P0 a b→P1 a b→P2 a b→G):G:=h.elim fun a h=>qao h (r a)
theorem qyb {T0:Sort _} {T1:Sort _} {P0 P1 P2 P3:T0→T1→Prop} {G:Prop} (h: ∃a b,P0 a b∧P1 a b∧P2 a b∧P3 a b) (r: ∀a b,P0 a b→P1 a b→P2 a b→P3 a b→G):G:=h.elim fun a h=>qt1 h (r a)
theorem qt2 {T0:Sort _} {T1:Sort _} {P0 P1 P2 P3 P4:T0→T1→Prop} {G:Prop} (h: ∃a b,P0 a b∧P1 a b∧P2 a b∧P3 a b∧P4 a b) (r: ∀a b,P0 a b→P1 a b→P2 a b→P3 a b→P4 a b→G):G:=h.elim fun a h=>ex1_5 h (r a)
theorem qyc {T0:Sort _} {T1:Sort _} {P0 P1 P2 P3 P4 P5:T0→T1→Prop} {G:Prop} (h: ∃a b,P0 a b∧P1 a b∧P2 a b∧P3 a b∧P4 a b∧P5 a b) (r: ∀a b,P0 a b→P1 a b→P2 a b→P3 a b→P4 a b→P5 a b→G):G:=h.elim fun a h=>ex1_6 h (r a)
theorem ex2_8 {T0:Sort _} {T1:Sort _} {P0 P1 P2 P3 P4 P5 P6 P7:T0→T1→Prop} {G:Prop} (h: ∃a b,P0 a b∧P1 a b∧P2 a b∧P3 a b∧P4 a b∧P5 a b∧P6 a b∧P7 a b) (r: ∀a b,P0 a b→P1 a b→P2 a b→P3 a b→P4 a b→P5 a b→P6 a b→P7 a b→G):G:=h.elim fun a h=>ex1_8 h (r a)
theorem qga {T0:Sort _} {T1:Sort _} {T2:Sort _} {P0 P1:T0→T1→T2→Prop} {G:Prop} (h: ∃a b c,P0 a b c∧P1 a b c) (r: ∀a b c,P0 a b c→P1 a b c→G):G:=h.elim fun a h=>qcv h (r a)
theorem ex3_3 {T0:Sort _} {T1:Sort _} {T2:Sort _} {P0 P1 P2:T0→T1→T2→Prop} {G:Prop} (h: ∃a b c,P0 a b c∧P1 a b c∧P2 a b c) (r: ∀a b c,P0 a b c→P1 a b c→P2 a b c→G):G:=h.elim fun a h=>qfj h (r a)
theorem qt3 {T0:Sort _} {T1:Sort _} {T2:Sort _} {P0 P1 P2 P3:T0→T1→T2→Prop} {G:Prop} (h: ∃a b c,P0 a b c∧P1 a b c∧P2 a b c∧P3 a b c) (r: ∀a b c,P0 a b c→P1 a b c→P2 a b c→P3 a b c→G):G:=h.elim fun a h=>qyb h (r a)
theorem qyd {T0:Sort _} {T1:Sort _} {T2:Sort _} {P0 P1 P2 P3 P4:T0→T1→T2→Prop} {G:Prop} (h: ∃a b c,P0 a b c∧P1 a b c∧P2 a b c∧P3 a b c∧P4 a b c) (r: ∀a b c,P0 a b c→P1 a b c→P2 a b c→P3 a b c→P4 a b c→G):G:=h.elim fun a h=>qt2 h (r a)
theorem qt4 {T0:Sort _} {T1:Sort _} {T2:Sort _} {P0 P1 P2 P3 P4 P5:T0→T1→T2→Prop} {G:Prop} (h: ∃a b c,P0 a b c∧P1 a b c∧P2 a b c∧P3 a b c∧P4 a b c∧P5 a b c) (r: ∀a b c,P0 a b c→P1 a b c→P2 a b c→P3 a b c→P4 a b c→P5 a b c→G):G:=h.elim fun a h=>qyc h (r a)
theorem ex4_2 {T0:Sort _} {T1:Sort _} {T2:Sort _} {T3:Sort _} {P0 P1:T0→T1→T2→T3→Prop} {G:Prop} (h: ∃a b c d,P0 a b c d∧P1 a b c d) (r: ∀a b c d,P0 a b c d→P1 a b c d→G):G:=h.elim fun a h=>qga h (r a)
theorem qye {T0:Sort _} {T1:Sort _} {T2:Sort _} {T3:Sort _} {P0 P1 P2:T0→T1→T2→T3→Prop} {G:Prop} (h: ∃a b c d,P0 a b c d∧P1 a b c d∧P2 a b c d) (r: ∀a b c d,P0 a b c d→P1 a b c d→P2 a b c d→G):G:=h.elim fun a h=>ex3_3 h (r a)
theorem qri {T0:Sort _} {T1:Sort _} {T2:Sort _} {T3:Sort _} {P0 P1 P2 P3:T0→T1→T2→T3→Prop} {G:Prop} (h: ∃a b c d,P0 a b c d∧P1 a b c d∧P2 a b c d∧P3 a b c d) (r: ∀a b c d,P0 a b c d→P1 a b c d→P2 a b c d→P3 a b c d→G):G:=h.elim fun a h=>qt3 h (r a)
theorem qyf {T0:Sort _} {T1:Sort _} {T2:Sort _} {T3:Sort _} {P0 P1 P2 P3 P4:T0→T1→T2→T3→Prop} {G:Prop} (h: ∃a b c d,P0 a b c d∧P1 a b c d∧P2 a b c d∧P3 a b c d∧P4 a b c d) (r: ∀a b c d,P0 a b c d→P1 a b c d→P2 a b c d→P3 a b c d→P4 a b c d→G):G:=h.elim fun a h=>qyd h (r a)
theorem ex5_3 {T0:Sort _} {T1:Sort _} {T2:Sort _} {T3:Sort _} {T4:Sort _} {P0 P1 P2:T0→T1→T2→T3→T4→Prop} {G:Prop} (h: ∃a b c d e,P0 a b c d e∧P1 a b c d e∧P2 a b c d e) (r: ∀a b c d e,P0 a b c d e→P1 a b c d e→P2 a b c d e→G):G:=h.elim fun a h=>qye h (r a)
theorem ex5_4 {T0:Sort _} {T1:Sort _} {T2:Sort _} {T3:Sort _} {T4:Sort _} {P0 P1 P2 P3:T0→T1→T2→T3→T4→Prop} {G:Prop} (h: ∃a b c d e,P0 a b c d e∧P1 a b c d e∧P2 a b c d e∧P3 a b c d e) (r: ∀a b c d e,P0 a b c d e→P1 a b c d e→P2 a b c d e→P3 a b c d e→G):G:=h.elim fun a h=>qri h (r a)
theorem ex5_5 {T0:Sort _} {T1:Sort _} {T2:Sort _} {T3:Sort _} {T4:Sort _} {P0 P1 P2 P3 P4:T0→T1→T2→T3→T4→Prop} {G:Prop} (h: ∃a b c d e,P0 a b c d e∧P1 a b c d e∧P2 a b c d e∧P3 a b c d e∧P4 a b c d e) (r: ∀a b c d e,P0 a b c d e→P1 a b c d e→P2 a b c d e→P3 a b c d e→P4 a b c d e→G):G:=h.elim fun a h=>qyf h (r a)
theorem qt5 {T0:Sort _} {T1:Sort _} {T2:Sort _} {T3:Sort _} {T4:Sort _} {T5:Sort _} {P0 P1 P2 P3 P4:T0→T1→T2→T3→T4→T5→Prop} {G:Prop} (h: ∃a b c d e f,P0 a b c d e f∧P1 a b c d e f∧P2 a b c d e f∧P3 a b c d e f∧P4 a b c d e f) (r: ∀a b c d e f,P0 a b c d e f→P1 a b c d e f→P2 a b c d e f→P3 a b c d e f→P4 a b c d e f→G):G:=h.elim fun a h=>ex5_5 h (r a)
theorem ex7_5 {T0:Sort _} {T1:Sort _} {T2:Sort _} {T3:Sort _} {T4:Sort _} {T5:Sort _} {T6:Sort _} {P0 P1 P2 P3 P4:T0→T1→T2→T3→T4→T5→T6→Prop} {G:Prop} (h: ∃a b c d e f g,P0 a b c d e f g∧P1 a b c d e f g∧P2 a b c d e f g∧P3 a b c d e f g∧P4 a b c d e f g) (r: ∀a b c d e f g,P0 a b c d e f g→P1 a b c d e f g→P2 a b c d e f g→P3 a b c d e f g→P4 a b c d e f g→G):G:=h.elim fun a h=>qt5 h (r a)
end Mine
end
noncomputable section
namespace Mine
theorem oq1 {a j k c:Nat} (h:a+k≤c) (e:j≤k):a+j≤c:=Nat.le_trans (Nat.add_le_add_left e a) h
theorem qo6 {a j k c:Nat} (h:a+k≤c) (e:j<k):a+j<c:=Nat.lt_of_lt_of_le (Nat.add_lt_add_left e a) h
theorem oq2 {a k c:Nat} (h:a+k≤c):a≤c:=Nat.le_trans (Nat.le_add_right ..) h
theorem oq2s {a k c:Nat} (h:a+k≤c) (e:0<k):a<c:=qo6 (j:=0) h e
theorem oq1e {a j k c:Nat} (h:c=a+k) (e:j≤k):a+j≤c:=oq1 (Nat.le_of_eq h.symm) e
theorem qfk {a j k c:Nat} (h:c=a+k) (e:j<k):a+j<c:=qo6 (Nat.le_of_eq h.symm) e
theorem oq2e {a k c:Nat} (h:c=a+k):a≤c:=oq2 (Nat.le_of_eq h.symm)
theorem qyg {a k c:Nat} (h:c=a+k) (e:0<k):a<c:=oq2s (Nat.le_of_eq h.symm) e
theorem qrd {a x k c:Nat} (g:x<a) (h:c=a+k):x<c:=Nat.lt_of_lt_of_le g (oq2e h)
theorem oq3 {a j k:Nat} (e:j≤k):a+j≤a+k:=Nat.add_le_add_left e a
theorem qrj {a j k:Nat} (e:j<k):a+j<a+k:=Nat.add_lt_add_left e a
theorem qyh {a k:Nat} (e:0<k):a<a+k:=qrj (j:=0) e
theorem oq6 {a b j k:Nat} (h:a≤b) (e:j≤k):a+j≤b+k:=Nat.add_le_add h e
theorem oq7 {a b k:Nat} (h:a≤b):a≤b+k:=Nat.le_trans h (Nat.le_add_right ..)
theorem oq7s {a b k:Nat} (h:a<b):a<b+k:=Nat.lt_of_lt_of_le h (Nat.le_add_right ..)
theorem oq10 {x n k m:Nat} (h1:x≤n) (e:n+k≤m):x+k≤m:=Nat.le_trans (Nat.add_le_add_right h1 k) e
theorem oq11 {x y:Nat} (h:(x:Int)=y):x=y:=Int.ofNat.inj h
theorem qo7 {x y:Nat} (h: ¬x=y): ¬(x:Int)=y:=fun q=>h (Int.ofNat.inj q)
theorem oq13 {x:Nat}: ¬(x:Int)<0:=Int.not_lt.mpr (Int.natCast_nonneg _)
theorem qwb {a b:Nat} {P:Prop} (h:a<b) (e:a=b):P:=absurd e (Nat.ne_of_lt h)
theorem oq22 {a i j k:Nat} (e:i+j≤k):a+i+j≤a+k:=by rw [Nat.add_assoc];exact oq3 e
theorem oq24 {a b c:Nat} (h:a+b=c):b≤c:=h ▸ Nat.le_add_left ..
theorem oq25 {a b c:Nat} (h:a+b=c):a≤c:=h ▸ Nat.le_add_right ..
theorem oq26 {a b c n:Nat} (h:a+b=c) (g:c≤n):b≤n:=Nat.le_trans (oq24 h) g
theorem oq27 {a b c n:Nat} (h:a+b=c) (g:c≤n):a≤n:=Nat.le_trans (oq25 h) g
theorem oq29 {x y n m:Nat} (h1:x≤y) (h2:y≤n) (e:n<m):x<m:=Nat.lt_of_le_of_lt (Nat.le_trans h1 h2) e
theorem oq30 {x y n m:Nat} (h1:x<y) (h2:y≤n) (e:n≤m):x<m:=Nat.lt_of_lt_of_le h1 (Nat.le_trans h2 e)
theorem qko {x c n m:Nat} (g:x=c) (h:c≤n) (e:n≤m):x≤m:=Nat.le_trans (g ▸ h) e
theorem oq38 {a b:Nat} {P:Prop} (h:a<b) (g:b≤a):P:=absurd h (Nat.not_lt.mpr g)
inductive Cls|buffer|cache|disk
 deriving DecidableEq
set_option genInjectivity true in
inductive Loc
 |inst (c:Cls) (n:Nat)|idict (c:Cls) (n:Nat)|list (n:Nat)|dict (n:Nat)|tup (n:Nat)|barr (n:Nat)
 deriving DecidableEq
noncomputable def Loc.n:Loc→Nat
 | .inst _ n=>n| .idict _ n=>n| .list n=>n| .dict n=>n| .tup n=>n| .barr n=>n
set_option genInjectivity true in
inductive V
 |none|bool (b:Bool)|int (i:Int)|str (s:String)|bytes (b:List UInt8)|ref (l:Loc)
 deriving DecidableEq
set_option genInjectivity true in
inductive MObj
 |inst (fs:List (String×V))
 |list (vs:List V)
 |tup (vs:List V)
 |dictI (kvs:List (Int×V))
 |dictS (kvs:List (String×V))
 |barr (b:List UInt8)
noncomputable abbrev Locs:=String→Option V
noncomputable def Locs.set (l:Locs) (x:String) (v:V):Locs:=fun y=>match y==x with|true=>some v|false=>l y
structure St where
 heap:Loc→Option MObj
 next:Nat
noncomputable def upd (h:Loc→Option MObj) (l:Loc) (o:MObj):Loc→Option MObj:=fun l'=>if l'=l then some o else h l'
noncomputable def St.set (σ:St) (l:Loc) (o:MObj):St:=⟨upd σ.heap l o,σ.next⟩
noncomputable def St.new (σ:St) (mk:Nat→Loc) (o:MObj):St:=⟨upd σ.heap (mk σ.next) o,σ.next+1⟩
noncomputable abbrev M (α:Type):=St→Option (α×St)
inductive Op|add|sub|mul|fdiv|mod|pow
inductive Cmp|eq|ne|lt|le|gt|ge|isIn|notIn|is|isnt
inductive Fn|f (name:String)|m (c:Cls) (name:String)
 deriving DecidableEq
inductive Bi|len|bytes|bytearray|isInt|list|dict|sorted|listRange|listRev
inductive ME
 |int (i:Int)|none|bool (b:Bool)|str (s:String)
 |var (x:String)
 |attr (e:ME) (x:String)
 |item (e i:ME)
 |sliceTo (e hi:ME)|sliceFrom (e lo:ME)
 |bin (op:Op) (a b:ME)
 |neg (a:ME)
 |cmp (op:Cmp) (a b:ME)
 |chain (a:ME) (op1:Cmp) (b:ME) (op2:Cmp) (c:ME)
 |and (a b:ME)|or (a b:ME)|not (a:ME)
 |ite (c a b:ME)
 |tup (es:List ME)|lst (es:List ME)
 |dct (ks:List String) (es:List ME)
 |comp (elt:ME) (x:String) (k:Nat) (its:List ME) (cond:Option ME)
 |call (f:String) (es:List ME)
 |new (c:Cls) (es:List ME)
 |meth (e:ME) (x:String) (es:List ME)
 |bi (b:Bi) (es:List ME)
inductive MS
 |asgVar (x:String) (e:ME)
 |asgTup (xs:List String) (es:List ME)
 |asgUnp (xs:List String) (e:ME)
 |asgAttr (e:ME) (x:String) (v:ME)
 |asgItem (e i v:ME)
 |asgSlice (e:ME) (lo hi:Option ME) (v:ME)
 |augAttr (e:ME) (x:String) (op:Op) (v:ME)
 |augItem (e i:ME) (op:Op) (v:ME)
 |expr (e:ME)
 |ifs (c:ME) (a b:List MS)
 |forL (x:String) (it:ME) (body:List MS)
 |forUnp (xs:List String) (it:ME) (body:List MS)
 |forEnum (x y:String) (it:ME) (body:List MS)
 |forRev (x:String) (it:ME) (body:List MS)
 |forRange (x:String) (hi:ME) (body:List MS)
 |forEnum0 (it:ME)
 |ret (e:ME)|retNone
 |delItem (e i:ME)
 |raise
 |tryB (body:List MS)
inductive MFl|next|ret (v:V)
noncomputable def qfl (k:String) (v:V):List (String×V)→List (String×V)
 | []=> [(k,v)]
 |(x,u)::r=>match x==k with|true=>(x,v)::r|false=>(x,u)::qfl k v r
noncomputable def qbd (k:Int) (v:V) (kvs:List (Int×V)):List (Int×V):=
 if kvs.any (fun kv=>kv.1=k)then kvs.map (fun kv=>if kv.1=k then(kv.1,v)else kv)else kvs++ [(k,v)]
noncomputable def qds (k:Int) (kvs:List (Int×V)):List (Int×V):=kvs.filter fun kv=>decide (kv.1≠k)
noncomputable def qa8 (k:Int) (kvs:List (Int×V)):Option V:=(kvs.find? fun kv=>kv.1=k).map (·.2)
noncomputable def qe7 (k:String):List (String×V)→Option V
 | []=>none
 |(x,u)::r=>match x==k with|true=>some u|false=>qe7 k r
theorem Locs.set_eq (l:Locs) (x:String) (v:V):l.set x v=fun y=>if y=x then some v else l y:=by
 funext y
 unfold Locs.set;by_cases h:y=x
 ·rw [if_pos h,beq_iff_eq.mpr h]
 ·rw [if_neg h,beq_eq_false_iff_ne.mpr h]
theorem Locs.at (l:Locs) (x:String) (v:V):l.set x v x=some v:=by rw [Locs.set_eq];exact if_pos rfl
theorem Locs.ne {l:Locs} {x y:String} {v:V} (h:y≠x):l.set x v y=l y:=by rw [Locs.set_eq];exact if_neg h
theorem qeq (k:String) (p:String×V) (r:List (String×V)):qe7 k (p::r)=if p.1=k then some p.2 else qe7 k r:=by
 show(match p.1==k with|true=>some p.2|false=>qe7 k r)=_
 by_cases h:p.1=k
 ·rw [if_pos h,beq_iff_eq.mpr h]
 ·rw [if_neg h,beq_eq_false_iff_ne.mpr h]
theorem qgb (k:String) (v:V) (p:String×V) (r:List (String×V)):qfl k v (p::r)=if p.1=k then(p.1,v)::r else p::qfl k v r:=by
 show(match p.1==k with|true=>(p.1,v)::r|false=>p::qfl k v r)=_
 by_cases h:p.1=k
 ·rw [if_pos h,beq_iff_eq.mpr h]
 ·rw [if_neg h,beq_eq_false_iff_ne.mpr h]
noncomputable def ints? :List V→Option (List Int)
 | []=>some []
 | .int i::r=>(ints? r).map (i:: ·)
 |_=>none
noncomputable def bytess? :List V→Option (List (List UInt8))
 | []=>some []
 | .bytes i::r=>(bytess? r).map (i:: ·)
 |_=>none
noncomputable def qkp (i:Int):UInt8:=UInt8.ofNat i.toNat
noncomputable def qns (i:Int):List Int→List Int
 | []=> [i]
 |x::r=>if i≤x then i::x::r else x::qns i r
noncomputable def qei:List Int→List Int
 | []=> []
 |x::r=>qns x (qei r)
noncomputable def ql5 (v:V):List V→Option (List V)
 | []=>none
 |x::r=>if x=v then some r else(ql5 v r).map (x:: ·)
noncomputable def qbm (a b:Int):List V:=(List.range (b- a).toNat).map fun(i:Nat)=> .int (a+(i:Int))
noncomputable def onI {β:Type} (v:V) (f:Int→Option β):Option β:=match v with
 | .int i=>f i
 |_=>none
noncomputable def onBy {β:Type} (v:V) (f:List UInt8→Option β):Option β:=match v with
 | .bytes b=>f b
 |_=>none
noncomputable def onL {β:Type} (σ:St) (v:V) (f:Nat→List V→Option β):Option β:=match v with
 | .ref (.list n)=>match σ.heap (.list n)with
  |some (.list vs)=>f n vs
  |_=>none
 |_=>none
noncomputable def one {β:Type} (vs:List V) (f:V→Option β):Option β:=match vs with
 | [v]=>f v
 |_=>none
noncomputable def addV (a b:V) (σ:St):Option (V×St):=match a with
 | .int x=>onI b fun y=>some (.int (x+y),σ)
 | .bytes x=>onBy b fun y=>if x.length+y.length≤64 then some (.bytes (x++y),σ)else none
 | .ref l=>onL σ (.ref l) fun _ xs=>onL σ b fun _ ys=>if xs.length+ys.length≤200000 then some (.ref (.list σ.next),σ.new .list (.list (xs++ys)))else none
 |_=>none
noncomputable def qe8 (op:Op) (a b:V):M V:=fun σ=>match op with
 | .add=>addV a b σ
 | .sub=>onI a fun x=>onI b fun y=>some (.int (x- y),σ)
 | .mul=>onI a fun x=>onI b fun y=>if y.natAbs<18446744073709551616 then some (.int (x*y),σ)else none
 | .fdiv=>onI a fun x=>onI b fun y=>if y≠0∧y.natAbs<1073741824 then some (.int (x.fdiv y),σ)else none
 | .mod=>onI a fun x=>onI b fun y=>if y≠0 then some (.int (x.fmod y),σ)else none
 | .pow=>onI a fun x=>onI b fun y=>if 0≤y∧y≤1000∧x.natAbs<18446744073709551616 then some (.int (x^y.toNat),σ)else none
noncomputable def qre (op:Op) (a b:V):Option V:=match op,a,b with
 | .add,.int x,.int y=>some (.int (x+y))
 | .sub,.int x,.int y=>some (.int (x- y))
 |_,_,_=>none
noncomputable def hL {β:Type} (σ:St) (n:Nat) (f:List V→Option β):Option β:=match σ.heap (.list n)with
 |some (.list vs)=>f vs
 |_=>none
noncomputable def hTp {β:Type} (σ:St) (n:Nat) (f:List V→Option β):Option β:=match σ.heap (.tup n)with
 |some (.tup vs)=>f vs
 |_=>none
noncomputable def hD {β:Type} (σ:St) (n:Nat) (f:List (Int×V)→Option β):Option β:=match σ.heap (.dict n)with
 |some (.dictI vs)=>f vs
 |_=>none
noncomputable def hS {β:Type} (σ:St) (n:Nat) (f:List (String×V)→Option β):Option β:=match σ.heap (.dict n)with
 |some (.dictS vs)=>f vs
 |_=>none
noncomputable def qyi (xs ys:List V):Option Bool:=match ints? xs,ints? ys with
 |some is,some js=>some (decide (is=js))
 |_,_=>match bytess? xs,bytess? ys with
  |some is,some js=>some (decide (is=js))
  |_,_=>none
noncomputable def eqV (a b:V) (σ:St):Option Bool:=match a with
 | .int x=>onI b fun y=>some (decide (x=y))
 | .bytes x=>onBy b fun y=>some (decide (x=y))
 | .none=>match b with| .none=>some true|_=>none
 | .ref l=>onL σ (.ref l) fun _ xs=>onL σ b fun _ ys=>qyi xs ys
 |_=>none
noncomputable def isR (l l':Loc) (σ:St):Option Bool:=match l with
 | .inst .. =>match l' with
  | .inst .. =>if(σ.heap l).isSome∧(σ.heap l').isSome then some (decide (l=l'))else none
  |_=>none
 |_=>none
noncomputable def isV (a b:V) (σ:St):Option Bool:=match a with
 | .none=>match b with| .none=>some true| .ref _=>some false|_=>none
 | .ref l=>match b with| .none=>some false| .ref l'=>isR l l' σ|_=>none
 | .int _=>match b with| .none=>some false|_=>none
 |_=>none
noncomputable def inR (x:Int) (l:Loc) (σ:St):Option Bool:=match l with
 | .list m=>hL σ m fun xs=>(ints? xs).map fun is=>decide (x∈is)
 | .tup m=>hTp σ m fun xs=>(ints? xs).map fun is=>decide (x∈is)
 | .dict m=>hD σ m fun kvs=>some (qa8 x kvs).isSome
 |_=>none
noncomputable def inV (a b:V) (σ:St):Option Bool:=onI a fun x=>match b with
 | .ref l=>inR x l σ
 |_=>none
noncomputable def qib (op:Cmp) (a b:V) (σ:St):Option Bool:=match op with
 | .eq=>eqV a b σ
 | .ne=>(eqV a b σ).map (!·)
 | .lt=>match a,b with| .int x,.int y=>some (decide (x<y))|_,_=>none
 | .le=>match a,b with| .int x,.int y=>some (decide (x≤y))|_,_=>none
 | .gt=>match a,b with| .int x,.int y=>some (decide (y<x))|_,_=>none
 | .ge=>match a,b with| .int x,.int y=>some (decide (y≤x))|_,_=>none
 | .isIn=>inV a b σ
 | .notIn=>(inV a b σ).map (!·)
 | .is=>isV a b σ
 | .isnt=>(isV a b σ).map (!·)
noncomputable def qid (v:V) (x:String) (σ:St):Option V:=match v with
 | .ref (.inst c n)=>match σ.heap (.inst c n)with
  |some (.inst fs)=>qe7 x fs
  |_=>none
 |_=>none
noncomputable def qyj (l:Loc) (i:V) (σ:St):Option V:=match l with
 | .list n=>onI i fun k=>hL σ n fun vs=>if 0≤k then vs[k.toNat]? else none
 | .tup n=>onI i fun k=>hTp σ n fun vs=>if 0≤k∧k<1000 then vs[k.toNat]? else none
 | .dict n=>match i with
  | .int k=>hD σ n fun kvs=>qa8 k kvs
  | .str k=>hS σ n fun kvs=>qe7 k kvs
  |_=>none
 |_=>none
noncomputable def qgc (v i:V) (σ:St):Option V:=match v with
 | .ref l=>qyj l i σ
 |_=>none
noncomputable def qer (v k:V):M V:=fun σ=>match v,k with
 | .bytes b,.int k=>if 0≤k∧b.length≤1000 then some (.bytes (b.take k.toNat),σ)else none
 | .ref (.list n),.int k=>match σ.heap (.list n)with
  |some (.list vs)=>if 0≤k then some (.ref (.list σ.next),σ.new .list (.list (vs.take k.toNat)))else none
  |_=>none
 |_,_=>none
noncomputable def qdy (v k:V):M V:=fun σ=>match v,k with
 | .bytes b,.int k=>if 0≤k∧b.length≤1000 then some (.bytes (b.drop k.toNat),σ)else none
 |_,_=>none
noncomputable def qav (v:V) (σ:St):Option (List V):=match v with
 | .ref (.list n)=>match σ.heap (.list n)with
  |some (.list vs)=>some vs
  |_=>none
 |_=>none
noncomputable def newList (vs:List V):M V:=fun σ=>some (.ref (.list σ.next),σ.new .list (.list vs))
noncomputable def qkq {β:Type} (σ:St) (v:V) (f:List UInt8→Option β):Option β:=match v with
 | .ref (.barr n)=>match σ.heap (.barr n)with
  |some (.barr b)=>f b
  |_=>none
 |_=>none
noncomputable def lenV (v:V) (σ:St):Option (V×St):=match v with
 | .bytes b=>if b.length≤64 then some (.int b.length,σ)else none
 | .ref l=>match l with
  | .list n=>onL σ (.ref (.list n)) fun _ vs=>some (.int vs.length,σ)
  |l=>qkq σ (.ref l) fun b=>if b.length≤64 then some (.int b.length,σ)else none
 |_=>none
noncomputable def qs6 (v:V) (σ:St):Option (V×St):=match v with
 | .bytes b=>some (.bytes b,σ)
 | .int k=>if 0≤k∧k≤64 then some (.bytes (List.replicate k.toNat 0),σ)else none
 | .ref l=>match l with
  | .list n=>onL σ (.ref (.list n)) fun _ vs=>match ints? vs with
   |some is=>if(is.all fun i=>0≤i&&i<256)=true∧is.length≤64 then some (.bytes (is.map qkp),σ)else none
   |none=>none
  |l=>qkq σ (.ref l) fun b=>if b.length≤64 then some (.bytes b,σ)else none
 |_=>none
noncomputable def qyk (v:V) (σ:St):Option (V×St):=match v with
 | .int _=>some (.bool true,σ)
 | .bytes _=>some (.bool false,σ)
 |_=>none
noncomputable def dictV (v:V) (σ:St):Option (V×St):=match v with
 | .ref (.dict n)=>match σ.heap (.dict n)with
  |some (.dictI kvs)=>some (.ref (.dict σ.next),σ.new .dict (.dictI kvs))
  |_=>none
 |_=>none
noncomputable def biV (b:Bi) (vs:List V):M V:=fun σ=>one vs fun v=>match b with
 | .len=>lenV v σ
 | .bytes=>qs6 v σ
 | .bytearray=>onBy v fun b=>if b.length≤64 then some (.ref (.barr σ.next),σ.new .barr (.barr b))else none
 | .isInt=>qyk v σ
 | .list=>onL σ v fun _ vs=>newList vs σ
 | .listRev=>onL σ v fun _ vs=>newList vs.reverse σ
 | .listRange=>onI v fun k=>if 0≤k∧k≤1000 then newList (qbm 0 k) σ else none
 | .sorted=>onL σ v fun _ vs=>match ints? vs with
  |some is=>if is.length<64 then newList ((qei is).map .int) σ else none
  |none=>none
 | .dict=>dictV v σ
noncomputable def fieldNames:List String:= ["number","data","holders","pins","disk","most","size","row","by_number","hits","reads","writes","blocks","kept","latest","unflushed","flushes","last","last_flush","is_dead"]
noncomputable def qdt {α β:Type} (m:Option α) (f:α→Option β):Option β:=match m with
 |some a=>f a
 |none=>none
noncomputable def appM (n:Nat) (xs:List V) (σ:St) (u:V):Option (V×St):=if xs.length≤100000∧n≠0 then some (.none,σ.set (.list n) (.list (xs++ [u])))else none
noncomputable def remM (n:Nat) (xs:List V) (σ:St) (u:V):Option (V×St):=match u with
 | .int i=>if n≠0 then qdt (ints? xs) fun _=>qdt (ql5 (.int i) xs) fun ys=>some (.none,σ.set (.list n) (.list ys))else none
 | .ref l=>match l with
  | .inst c k=>if n≠0∧(xs.all fun y=>match y with| .ref (.inst c' k')=>(σ.heap (.inst c' k')).isSome|_=>false)=true then qdt (ql5 (.ref (.inst c k)) xs) fun ys=>some (.none,σ.set (.list n) (.list ys))else none
  |_=>none
 |_=>none
noncomputable def getM (kvs:List (Int×V)) (σ:St) (vs:List V):Option (V×St):=match vs with
 |u::r=>onI u fun k=>match r with
  | []=>some ((qa8 k kvs).getD .none,σ)
  |d::r=>match r with
   | []=>some ((qa8 k kvs).getD d,σ)
   |_::_=>none
 | []=>none
noncomputable def popM (n:Nat) (kvs:List (Int×V)) (σ:St) (u:V):Option (V×St):=onI u fun k=>qdt (qa8 k kvs) fun u=>some (u,σ.set (.dict n) (.dictI (qds k kvs)))
noncomputable def qyl (n:Nat) (x:String) (vs:List V) (σ:St):Option (V×St):=hL σ n fun xs=>if x="append" then one vs (appM n xs σ)else if x="remove" then one vs (remM n xs σ)else none
noncomputable def qym (n:Nat) (x:String) (vs:List V) (σ:St):Option (V×St):=hD σ n fun kvs=>if x="get" then getM kvs σ vs else if x="pop" then one vs (popM n kvs σ)else none
noncomputable def qdz (v:V) (x:String) (vs:List V):M V:=fun σ=>match v with
 | .ref l=>match l with
  | .list n=>qyl n x vs σ
  | .dict n=>qym n x vs σ
  |_=>none
 |_=>none
noncomputable def qda (v:V) (x:String) (u:V) (σ:St):Option St:=match v with
 | .ref (.inst c n)=>match σ.heap (.inst c n)with
  |some (.inst fs)=>if x∈fieldNames∧fs.length≤500 then some (σ.set (.inst c n) (.inst (qfl x u fs)))else none
  |_=>none
 |_=>none
noncomputable def setR (l:Loc) (k:Int) (u:V) (σ:St):Option St:=match l with
 | .list n=>hL σ n fun vs=>if 0≤k∧k<vs.length∧n≠0 then some (σ.set (.list n) (.list (vs.set k.toNat u)))else none
 | .dict n=>hD σ n fun kvs=>if kvs.length≤100000 then some (σ.set (.dict n) (.dictI (qbd k u kvs)))else none
 |_=>none
noncomputable def qdb (v i u:V) (σ:St):Option St:=onI i fun k=>match v with
 | .ref l=>setR l k u σ
 |_=>none
noncomputable def qcg (v:V) (lo hi:Option Int) (u:V) (σ:St):Option St:=match v,u with
 | .ref (.barr n),.bytes b=>match σ.heap (.barr n)with
  |some (.barr old)=>
   let l:=lo.getD 0
   let h:=hi.getD old.length
   if 0≤l∧l≤h∧h≤old.length∧(b.length:Int)=h- l∧old.length≤64 then
    some (σ.set (.barr n) (.barr (old.take l.toNat++b++old.drop h.toNat)))
   else none
  |_=>none
 |_,_=>none
noncomputable def delR (l:Loc) (k:Int) (σ:St):Option St:=match l with
 | .list n=>hL σ n fun vs=>if 0≤k∧k<vs.length∧n≠0 then some (σ.set (.list n) (.list (vs.eraseIdx k.toNat)))else none
 | .dict n=>hD σ n fun kvs=>if(qa8 k kvs).isSome then some (σ.set (.dict n) (.dictI (qds k kvs)))else none
 |_=>none
noncomputable def qes (v i:V) (σ:St):Option St:=onI i fun k=>match v with
 | .ref l=>delR l k σ
 |_=>none
noncomputable def bind {α β:Type} (m:Option (α×St)) (f:α→St→Option (β×St)):Option (β×St):=match m with
 |some (a,σ)=>f a σ
 |none=>none
noncomputable def qrf {β:Type} (m:Option V) (σ:St) (f:V→St→Option (β×St)):Option (β×St):=match m with
 |some a=>f a σ
 |none=>none
noncomputable def qe1 {β:Type} (m:Option Bool) (f:Bool→Option β):Option β:=match m with
 |some b=>f b
 |none=>none
noncomputable def isB {β:Type} (v:V) (f:Bool→Option β):Option β:=match v with
 | .bool b=>f b
 |_=>none
noncomputable def qc8 (v:V) (σ:St):Bool:=match v with
 | .ref (.inst c n)=>match σ.heap (.inst c n)with|some (.inst _)=>true|_=>false
 | .ref (.list n)=>match σ.heap (.list n)with|some (.list _)=>true|_=>false
 | .ref (.dict n)=>match σ.heap (.dict n)with|some (.dictI _)=>true|_=>false
 |_=>false
noncomputable abbrev Calls:=Fn→List V→M V
noncomputable def qgd (f:V→M (Option V)):List V→M (List V)
 | [],σ=>some ([],σ)
 |v::r,σ=>bind (f v σ) fun o σ=>bind (qgd f r σ) fun us σ=>some (o.toList++us,σ)
noncomputable def qie (k:Nat) (vs:List V) (σ:St):Option (List V):=match k,vs with
 |0,[v]=>qav v σ
 |1,[.int b]=>if-100000≤b∧b≤100000 then some (qbm 0 b)else none
 |2,[.int a,.int b]=>if-100000≤a∧a≤100000∧ -100000≤b∧b≤100000 then some (qbm a b)else none
 |_,_=>none
noncomputable def qkr (b:Bool) (cf:Option (M V)) (ef:M V):M (Option V):=fun σ=>match b with
 |false=>none
 |true=>match cf with
  |none=>bind (ef σ) fun u σ=>some (some u,σ)
  |some c=>bind (c σ) fun b σ=>isB b fun b=>match b with
   |true=>bind (ef σ) fun u σ=>some (some u,σ)
   |false=>some (none,σ)
noncomputable def qar (k:Nat) (vs:List V) (src:List V) (σ:St):Bool:=match k,vs with
 |0,[v]=>decide (qav v σ=some src)
 |_,_=>true
mutual
noncomputable def evE (C:Calls) (l:Locs):ME→M V
 | .int i,σ=>some (.int i,σ)
 | .none,σ=>some (.none,σ)
 | .bool b,σ=>some (.bool b,σ)
 | .str s,σ=>some (.str s,σ)
 | .var x,σ=>qrf (l x) σ fun v σ=>some (v,σ)
 | .attr e x,σ=>bind (evE C l e σ) fun v σ=>qrf (qid v x σ) σ fun v σ=>some (v,σ)
 | .item e i,σ=>bind (evE C l e σ) fun v σ=>bind (evE C l i σ) fun k σ=>qrf (qgc v k σ) σ fun v σ=>some (v,σ)
 | .sliceTo e i,σ=>bind (evE C l e σ) fun v σ=>bind (evE C l i σ) fun k σ=>qer v k σ
 | .sliceFrom e i,σ=>bind (evE C l e σ) fun v σ=>bind (evE C l i σ) fun k σ=>qdy v k σ
 | .bin op a b,σ=>bind (evE C l a σ) fun x σ=>bind (evE C l b σ) fun y σ=>qe8 op x y σ
 | .neg a,σ=>bind (evE C l a σ) fun x σ=>match x with| .int i=>some (.int (-i),σ)|_=>none
 | .cmp op a b,σ=>bind (evE C l a σ) fun x σ=>bind (evE C l b σ) fun y σ=>qe1 (qib op x y σ) fun r=>some (.bool r,σ)
 | .chain a o1 b o2 c,σ=>bind (evE C l a σ) fun x σ=>bind (evE C l b σ) fun y σ=>qe1 (qib o1 x y σ) fun r=>
   match r with
   |true=>bind (evE C l c σ) fun z σ=>qe1 (qib o2 y z σ) fun r=>some (.bool r,σ)
   |false=>some (.bool false,σ)
 | .and a b,σ=>bind (evE C l a σ) fun x σ=>isB x fun r=>match r with|true=>evE C l b σ|false=>some (.bool false,σ)
 | .or a b,σ=>bind (evE C l a σ) fun x σ=>isB x fun r=>match r with|false=>evE C l b σ|true=>some (.bool true,σ)
 | .not a,σ=>bind (evE C l a σ) fun x σ=>isB x fun r=>some (.bool (!r),σ)
 | .ite c a b,σ=>bind (evE C l c σ) fun x σ=>isB x fun r=>match r with|true=>evE C l a σ|false=>evE C l b σ
 | .tup es,σ=>bind (qdc C l es σ) fun vs σ=>some (.ref (.tup σ.next),σ.new .tup (.tup vs))
 | .lst es,σ=>bind (qdc C l es σ) fun vs σ=>newList vs σ
 | .dct ks es,σ=>bind (qdc C l es σ) fun vs σ=>match ks with
   | []=>some (.ref (.dict σ.next),σ.new .dict (.dictI []))
   |_::_=>some (.ref (.dict σ.next),σ.new .dict (.dictS (ks.zip vs)))
 | .comp elt x k its cond,σ=>bind (qdc C l its σ) fun ws σ=>qdt (if(l ".0").isNone then qie k ws σ else none) fun src=>bind (qgd (fun v σ=>qkr (qar k ws src σ) (match cond with
     |none=>none
     |some c=>some (evE C (l.set x v) c)) (evE C (l.set x v) elt) σ) src σ) fun vs σ=>match qar k ws src σ with
     |true=>newList vs σ
     |false=>none
 | .call f es,σ=>bind (qdc C l es σ) fun vs σ=>C (.f f) vs σ
 | .new c es,σ=>bind (qdc C l es σ) fun vs σ=>
   bind (C (.m c "__init__") (.ref (.inst c σ.next)::vs) (σ.new (.inst c) (.inst []))) fun r σ'=>match r with
    | .none=>some (.ref (.inst c σ.next),σ')
    |_=>none
 | .meth e x es,σ=>bind (evE C l e σ) fun v σ=>match qc8 v σ with
   |false=>none
   |true=>bind (qdc C l es σ) fun vs σ=>match v with
    | .ref (.inst c n)=>C (.m c x) (.ref (.inst c n)::vs) σ
    |_=>qdz v x vs σ
 | .bi b es,σ=>bind (qdc C l es σ) fun vs σ=>biV b vs σ
noncomputable def qdc (C:Calls) (l:Locs):List ME→M (List V)
 | [],σ=>some ([],σ)
 |e::r,σ=>bind (evE C l e σ) fun v σ=>bind (qdc C l r σ) fun vs σ=>some (v::vs,σ)
end
noncomputable def qcr:List String→List V→Locs→Option Locs
 | [],[],l=>some l
 |x::xs,v::vs,l=>qcr xs vs (l.set x v)
 |_,_,_=>none
noncomputable abbrev R:=Option (MFl×Locs×St)
noncomputable def qjp (m:R) (f:Locs→St→R):R:=match m with
 |some (.next,l,σ)=>f l σ
 |r=>r
noncomputable def qa6 {α:Type} (m:Option (α×St)) (f:α→St→R):R:=match m with
 |some (a,σ)=>f a σ
 |none=>none
noncomputable def stR (m:Option St) (f:St→R):R:=match m with
 |some σ=>f σ
 |none=>none
noncomputable def qch (qar:St→Bool) (turn:V→Locs→St→R):List V→Locs→St→R
 | [],l,σ=>match qar σ with
  |true=>some (.next,l,σ)
  |false=>none
 |v::r,l,σ=>match qar σ with
  |true=>qjp (turn v l σ) (qch qar turn r)
  |false=>none
noncomputable def qgz (qar:St→Bool) (turn:Nat→V→Locs→St→R):Nat→List V→Locs→St→R
 |_,[],l,σ=>match qar σ with
  |true=>some (.next,l,σ)
  |false=>none
 |i,v::r,l,σ=>match qar σ with
  |true=>qjp (turn i v l σ) (qgz qar turn (i+1) r)
  |false=>none
mutual
noncomputable def evS (C:Calls):MS→Locs→St→R
 | .asgVar x e,l,σ=>qa6 (evE C l e σ) fun v σ=>some (.next,l.set x v,σ)
 | .asgTup xs es,l,σ=>qa6 (qdc C l es σ) fun vs σ=>qdt (qcr xs vs l) fun l'=>some (.next,l',σ.new .tup (.tup vs))
 | .asgUnp xs e,l,σ=>qa6 (evE C l e σ) fun v σ=>match v with
   | .ref (.tup n)=>match σ.heap (.tup n)with
    |some (.tup vs)=>qdt (qcr xs vs l) fun l'=>some (.next,l',σ)
    |_=>none
   |_=>none
 | .asgAttr e x v,l,σ=>qa6 (evE C l v σ) fun u σ=>qa6 (evE C l e σ) fun o σ=>stR (qda o x u σ) fun σ=>some (.next,l,σ)
 | .asgItem e i v,l,σ=>qa6 (evE C l v σ) fun u σ=>qa6 (evE C l e σ) fun o σ=>qa6 (evE C l i σ) fun k σ=>stR (qdb o k u σ) fun σ=>some (.next,l,σ)
 | .asgSlice e lo hi v,l,σ=>qa6 (evE C l v σ) fun u σ=>qa6 (evE C l e σ) fun o σ=>match lo,hi with
   |none,none=>stR (qcg o none none u σ) fun σ=>some (.next,l,σ)
   |some a,some b=>qa6 (evE C l a σ) fun x σ=>qa6 (evE C l b σ) fun y σ=>match x,y with
    | .int i,.int j=>stR (qcg o (some i) (some j) u σ) fun σ=>some (.next,l,σ)
    |_,_=>none
   |_,_=>none
 | .augAttr e x op v,l,σ=>qa6 (evE C l e σ) fun o σ=>qdt (qid o x σ) fun u=>qa6 (evE C l v σ) fun w σ=>qdt (qre op u w) fun r=>stR (qda o x r σ) fun σ=>some (.next,l,σ)
 | .augItem e i op v,l,σ=>qa6 (evE C l e σ) fun o σ=>qa6 (evE C l i σ) fun k σ=>qdt (qgc o k σ) fun u=>qa6 (evE C l v σ) fun w σ=>qdt (qre op u w) fun r=>stR (qdb o k r σ) fun σ=>some (.next,l,σ)
 | .expr e,l,σ=>qa6 (evE C l e σ) fun _ σ=>some (.next,l,σ)
 | .ifs c a b,l,σ=>qa6 (evE C l c σ) fun v σ=>isB v fun r=>match r with
   |true=>qbk C a l σ
   |false=>qbk C b l σ
 | .forL x it body,l,σ=>qa6 (evE C l it σ) fun v σ=>qdt (qav v σ) fun vs=>qch (fun σ=>decide (qav v σ=some vs)) (fun u l σ=>qbk C body (l.set x u) σ) vs l σ
 | .forUnp xs it body,l,σ=>qa6 (evE C l it σ) fun v σ=>qdt (qav v σ) fun vs=>qch (fun σ=>decide (qav v σ=some vs)) (fun u l σ=>match u with
     | .ref (.tup n)=>match σ.heap (.tup n)with
      |some (.tup us)=>qdt (qcr xs us l) fun l'=>qbk C body l' σ
      |_=>none
     |_=>none) vs l σ
 | .forEnum x y it body,l,σ=>qa6 (evE C l it σ) fun v σ=>qdt (qav v σ) fun vs=>qgz (fun σ=>decide (qav v σ=some vs)) (fun i u l σ=>qbk C body ((l.set x (.int i)).set y u) σ) 0 vs l σ
 | .forRev x it body,l,σ=>qa6 (evE C l it σ) fun v σ=>qdt (qav v σ) fun vs=>qch (fun σ=>decide (qav v σ=some vs)) (fun u l σ=>qbk C body (l.set x u) σ) vs.reverse l σ
 | .forRange x hi body,l,σ=>qa6 (evE C l hi σ) fun v σ=>match v with
   | .int b=>if-100000≤b∧b≤100000 then qch (fun _=>true) (fun u l σ=>qbk C body (l.set x u) σ) (qbm 0 b) l σ else none
   |_=>none
 | .forEnum0 it,l,σ=>qa6 (evE C l it σ) fun v σ=>match qav v σ with
   |some []=>some (.next,l,σ)
   |_=>none
 | .ret e,l,σ=>qa6 (evE C l e σ) fun v σ=>some (.ret v,l,σ)
 | .retNone,l,σ=>some (.ret .none,l,σ)
 | .delItem e i,l,σ=>qa6 (evE C l e σ) fun o σ=>qa6 (evE C l i σ) fun k σ=>stR (qes o k σ) fun σ=>some (.next,l,σ)
 | .raise,_,_=>none
 | .tryB body,l,σ=>qbk C body l σ
noncomputable def qbk (C:Calls):List MS→Locs→St→R
 | [],l,σ=>some (.next,l,σ)
 |s::r,l,σ=>qjp (evS C s l σ) (qbk C r)
end
section
variable {C:Calls} {l:Locs} {σ:St}
theorem g_int (i:Int):evE C l (.int i) σ=some (.int i,σ):=rfl
theorem qyn (b:Bool):evE C l (.bool b) σ=some (.bool b,σ):=rfl
theorem qyo (x:String):evE C l (.var x) σ=qrf (l x) σ fun v σ=>some (v,σ):=rfl
theorem qyp (e:ME) (i:ME):evE C l (.item e i) σ=bind (evE C l e σ) fun v σ=>bind (evE C l i σ) fun k σ=>qrf (qgc v k σ) σ fun v σ=>some (v,σ):=rfl
theorem qyq (op:Op) (a:ME) (b:ME):evE C l (.bin op a b) σ=bind (evE C l a σ) fun x σ=>bind (evE C l b σ) fun y σ=>qe8 op x y σ:=rfl
theorem qrk (op:Cmp) (a:ME) (b:ME):evE C l (.cmp op a b) σ=bind (evE C l a σ) fun x σ=>bind (evE C l b σ) fun y σ=>qe1 (qib op x y σ) fun r=>some (.bool r,σ):=rfl
theorem g_not (a:ME):evE C l (.not a) σ=bind (evE C l a σ) fun x σ=>isB x fun r=>some (.bool (!r),σ):=rfl
theorem qrl (c:ME) (a:ME) (b:ME):evE C l (.ite c a b) σ=bind (evE C l c σ) fun x σ=>isB x fun r=>match r with|true=>evE C l a σ|false=>evE C l b σ:=rfl
theorem qyr (es:List ME):evE C l (.tup es) σ=bind (qdc C l es σ) fun vs σ=>some (.ref (.tup σ.next),σ.new .tup (.tup vs)):=rfl
theorem qm7 (elt:ME) (x:String) (k:Nat) (its:List ME) (cond:Option ME):evE C l (.comp elt x k its cond) σ=(bind (qdc C l its σ) fun ws σ=>qdt (if(l ".0").isNone then qie k ws σ else none) fun src=>bind (qgd (fun v σ=>qkr (qar k ws src σ) (match cond with
      |none=>none
      |some c=>some (evE C (l.set x v) c)) (evE C (l.set x v) elt) σ) src σ) fun vs σ=>match qar k ws src σ with
      |true=>newList vs σ
      |false=>none):=by cases cond<;>rfl
theorem qe2 (f:String) (es:List ME):evE C l (.call f es) σ=bind (qdc C l es σ) fun vs σ=>C (.f f) vs σ:=rfl
theorem g_new (c:Cls) (es:List ME):evE C l (.new c es) σ=(bind (qdc C l es σ) fun vs σ=>
    bind (C (.m c "__init__") (.ref (.inst c σ.next)::vs) (σ.new (.inst c) (.inst []))) fun r σ'=>match r with
     | .none=>some (.ref (.inst c σ.next),σ')
     |_=>none):=rfl
theorem qs7 (e:ME) (x:String) (es:List ME):evE C l (.meth e x es) σ=(bind (evE C l e σ) fun v σ=>match qc8 v σ with
    |false=>none
    |true=>bind (qdc C l es σ) fun vs σ=>match v with
     | .ref (.inst c n)=>C (.m c x) (.ref (.inst c n)::vs) σ
     |_=>qdz v x vs σ):=rfl
theorem g_bi (b:Bi) (es:List ME):evE C l (.bi b es) σ=bind (qdc C l es σ) fun vs σ=>biV b vs σ:=rfl
theorem qfm (x:String) (e:ME):evS C (.asgVar x e) l σ=qa6 (evE C l e σ) fun v σ=>some (.next,l.set x v,σ):=rfl
theorem qet (xs:List String) (es:List ME):evS C (.asgTup xs es) l σ=qa6 (qdc C l es σ) fun vs σ=>qdt (qcr xs vs l) fun l'=>some (.next,l',σ.new .tup (.tup vs)):=rfl
theorem qo9 (e:ME):evS C (.expr e) l σ=qa6 (evE C l e σ) fun _ σ=>some (.next,l,σ):=rfl
theorem qt6 (c:ME) (a:List MS) (b:List MS):evS C (.ifs c a b) l σ=(qa6 (evE C l c σ) fun v σ=>isB v fun r=>match r with
    |true=>qbk C a l σ
    |false=>qbk C b l σ):=rfl
theorem qys (x:String) (it:ME) (body:List MS):evS C (.forL x it body) l σ=qa6 (evE C l it σ) fun v σ=>qdt (qav v σ) fun vs=>qch (fun σ=>decide (qav v σ=some vs)) (fun u l σ=>qbk C body (l.set x u) σ) vs l σ:=rfl
theorem qrm (xs:List String) (it:ME) (body:List MS):evS C (.forUnp xs it body) l σ=(qa6 (evE C l it σ) fun v σ=>qdt (qav v σ) fun vs=>qch (fun σ=>decide (qav v σ=some vs)) (fun u l σ=>match u with
      | .ref (.tup n)=>match σ.heap (.tup n)with
       |some (.tup us)=>qdt (qcr xs us l) fun l'=>qbk C body l' σ
       |_=>none
      |_=>none) vs l σ):=rfl
theorem qpa (x:String) (y:String) (it:ME) (body:List MS):evS C (.forEnum x y it body) l σ=qa6 (evE C l it σ) fun v σ=>qdt (qav v σ) fun vs=>qgz (fun σ=>decide (qav v σ=some vs)) (fun i u l σ=>qbk C body ((l.set x (.int i)).set y u) σ) 0 vs l σ:=rfl
theorem qrn (x:String) (it:ME) (body:List MS):evS C (.forRev x it body) l σ=qa6 (evE C l it σ) fun v σ=>qdt (qav v σ) fun vs=>qch (fun σ=>decide (qav v σ=some vs)) (fun u l σ=>qbk C body (l.set x u) σ) vs.reverse l σ:=rfl
theorem qnt (x:String) (hi:ME) (body:List MS):evS C (.forRange x hi body) l σ=(qa6 (evE C l hi σ) fun v σ=>match v with
    | .int b=>if-100000≤b∧b≤100000 then qch (fun _=>true) (fun u l σ=>qbk C body (l.set x u) σ) (qbm 0 b) l σ else none
    |_=>none):=rfl
theorem ql6 (e:ME):evS C (.ret e) l σ=qa6 (evE C l e σ) fun v σ=>some (.ret v,l,σ):=rfl
theorem qby:qdc C l [] σ=some ([],σ):=rfl
theorem ql7 (e:ME) (r:List ME):qdc C l (e::r) σ=bind (evE C l e σ) fun v σ=>bind (qdc C l r σ) fun vs σ=>some (v::vs,σ):=rfl
theorem qs8:qbk C [] l σ=some (.next,l,σ):=rfl
end
section
variable {α β:Type} {G:Prop}
theorem qaq {m:Option (α×St)} {f:α→St→Option (β×St)} {r:β×St} (h:bind m f=some r) (k: ∀a σ,m=some (a,σ)→f a σ=some r→G):G:=by
 cases m with
 |none=>exact nomatch h
 |some x=>exact k x.1 x.2 rfl h
theorem qba {m:Option (α×St)} {f:α→St→R} {r:MFl×Locs×St} (h:qa6 m f=some r) (k: ∀a σ,m=some (a,σ)→f a σ=some r→G):G:=by
 cases m with
 |none=>exact nomatch h
 |some x=>exact k x.1 x.2 rfl h
theorem ql8 {m:Option St} {f:St→R} {r:MFl×Locs×St} (h:stR m f=some r) (k: ∀σ,m=some σ→f σ=some r→G):G:=by
 cases m with
 |none=>exact nomatch h
 |some x=>exact k x rfl h
theorem qs9 {m:Option V} {σ:St} {f:V→St→Option (β×St)} {r:β×St} (h:qrf m σ f=some r) (k: ∀v,m=some v→f v σ=some r→G):G:=by
 cases m with
 |none=>exact nomatch h
 |some x=>exact k x rfl h
theorem qc9 {m:Option α} {f:α→Option β} {r:β} (h:qdt m f=some r) (k: ∀a,m=some a→f a=some r→G):G:=by
 cases m with
 |none=>exact nomatch h
 |some x=>exact k x rfl h
theorem qeu {m:Option Bool} {f:Bool→Option β} {r:β} (h:qe1 m f=some r) (k: ∀b,m=some b→f b=some r→G):G:=by
 cases m with
 |none=>exact nomatch h
 |some x=>exact k x rfl h
theorem qif {v:V} {f:Bool→Option β} {r:β} (h:isB v f=some r) (k: ∀b,v= .bool b→f b=some r→G):G:=by
 cases v with
 |bool b=>exact k b rfl h
 |_=>exact nomatch h
theorem qdu {c:Prop} [Decidable c] {a:Option α} {r:α} (h:(if c then a else none)=some r) (k:c→a=some r→G):G:=by
 by_cases q:c
 ·rw [if_pos q]at h;exact k q h
 ·rw [if_neg q]at h;exact nomatch h
theorem qe9 {c:Prop} [Decidable c] {a b:Option α} {r:α} (k:c→a=some r→G) (l: ¬c→b=some r→G) (h:(if c then a else b)=some r):G:=by
 by_cases q:c
 ·rw [if_pos q]at h;exact k q h
 ·rw [if_neg q]at h;exact l q h
theorem qa3 {r:α} (h:none=some r):G:=nomatch h
theorem qhd {v:V} {f:Int→Option α} {r:α} (h:onI v f=some r) (k: ∀i,v= .int i→f i=some r→G):G:=by
 cases v with
 |int i=>exact k i rfl h
 |_=>exact qa3 h
theorem qpb {v:V} {f:List UInt8→Option α} {r:α} (h:onBy v f=some r) (k: ∀b,v= .bytes b→f b=some r→G):G:=by
 cases v with
 |bytes b=>exact k b rfl h
 |_=>exact qa3 h
theorem qro {vs:List V} {f:V→Option α} {r:α} (h:one vs f=some r) (k: ∀v,vs= [v]→f v=some r→G):G:=by
 cases vs with
 |nil=>exact qa3 h
 |cons v vs=>cases vs with
  |nil=>exact k v rfl h
  |cons=>exact qa3 h
theorem qjq {σ:St} {v:V} {f:Nat→List V→Option α} {r:α} (h:onL σ v f=some r) (k: ∀n vs,v= .ref (.list n)→σ.heap (.list n)=some (.list vs)→f n vs=some r→G):G:=by
 cases v with
 |ref l=>cases l with
  |list n=>
   have h:(match σ.heap (.list n)with|some (.list vs)=>f n vs|_=>none)=some r:=h
   cases q:σ.heap (.list n)with
   |none=>rw [q]at h;exact qa3 h
   |some o=>
    rw [q]at h;cases o with
    |list vs=>exact k n vs rfl q h
    |_=>exact qa3 h
  |_=>exact qa3 h
 |_=>exact qa3 h
theorem qm8 {σ:St} {v:V} {f:List UInt8→Option α} {r:α} (h:qkq σ v f=some r) (k: ∀n b,v= .ref (.barr n)→σ.heap (.barr n)=some (.barr b)→f b=some r→G):G:=by
 cases v with
 |ref l=>cases l with
  |barr n=>
   have h:(match σ.heap (.barr n)with|some (.barr b)=>f b|_=>none)=some r:=h
   cases q:σ.heap (.barr n)with
   |none=>rw [q]at h;exact qa3 h
   |some o=>
    rw [q]at h;cases o with
    |barr b=>exact k n b rfl q h
    |_=>exact qa3 h
  |_=>exact qa3 h
 |_=>exact qa3 h
theorem qyt {σ:St} {n:Nat} {f:List V→Option α} {r:α} (h:hL σ n f=some r) (k: ∀vs,σ.heap (.list n)=some (.list vs)→f vs=some r→G):G:=by
 have h:(match σ.heap (.list n)with|some (.list vs)=>f vs|_=>none)=some r:=h
 cases q:σ.heap (.list n)with
 |none=>rw [q]at h;exact qa3 h
 |some o=>
  rw [q]at h;cases o with
  |list vs=>exact k vs q h
  |_=>exact qa3 h
theorem qyu {σ:St} {n:Nat} {f:List V→Option α} {r:α} (h:hTp σ n f=some r) (k: ∀vs,σ.heap (.tup n)=some (.tup vs)→f vs=some r→G):G:=by
 have h:(match σ.heap (.tup n)with|some (.tup vs)=>f vs|_=>none)=some r:=h
 cases q:σ.heap (.tup n)with
 |none=>rw [q]at h;exact qa3 h
 |some o=>
  rw [q]at h;cases o with
  |tup vs=>exact k vs q h
  |_=>exact qa3 h
theorem qyv {σ:St} {n:Nat} {f:List (Int×V)→Option α} {r:α} (h:hD σ n f=some r) (k: ∀vs,σ.heap (.dict n)=some (.dictI vs)→f vs=some r→G):G:=by
 have h:(match σ.heap (.dict n)with|some (.dictI vs)=>f vs|_=>none)=some r:=h
 cases q:σ.heap (.dict n)with
 |none=>rw [q]at h;exact qa3 h
 |some o=>
  rw [q]at h;cases o with
  |dictI vs=>exact k vs q h
  |_=>exact qa3 h
theorem hS_e {σ:St} {n:Nat} {f:List (String×V)→Option α} {r:α} (h:hS σ n f=some r) (k: ∀vs,σ.heap (.dict n)=some (.dictS vs)→f vs=some r→G):G:=by
 have h:(match σ.heap (.dict n)with|some (.dictS vs)=>f vs|_=>none)=some r:=h
 cases q:σ.heap (.dict n)with
 |none=>rw [q]at h;exact qa3 h
 |some o=>
  rw [q]at h;cases o with
  |dictS vs=>exact k vs q h
  |_=>exact qa3 h
@[elab_as_elim] theorem qcs {a a':α} {b b':β} {P:α→β→Prop} (h:some (a,b)=some (a',b')) (k:P a b):P a' b':=by cases h;exact k
@[elab_as_elim] theorem qkm {γ:Type} {a a':α} {b b':β} {c c':γ} {P:α→β→γ→Prop} (h:some (a,b,c)=some (a',b',c')) (k:P a b c):P a' b' c':=by cases h;exact k
@[elab_as_elim] theorem qct {a a':α} {P:α→Prop} (h:some a=some a') (k:P a):P a':=by cases h;exact k
end
structure Def where
 params:List String
 body:List MS
noncomputable def qdl:List String→List V→Option Locs
 | [],[]=>some fun _=>none
 |x::xs,v::vs=>(qdl xs vs).map fun l=>l.set x v
 |_,_=>none
noncomputable def qag (P:Fn→Option Def):Nat→Calls
 |0,_,_,_=>none
 |d+1,f,vs,σ=>match P f with
  |none=>none
  |some D=>match qdl D.params vs with
   |none=>none
   |some l=>match qbk (qag P d) D.body l σ with
    |some (.next,_,σ)=>some (.none,σ)
    |some (.ret v,_,σ)=>some (v,σ)
    |none=>none
end Mine
end
noncomputable section
namespace Mine
open PySem (Str Scope NameKind CmpOp Operator)
noncomputable def nm (x:Str):Option String:=if Str.ofString x.toString=x then some x.toString else none
noncomputable def funNames:List String:= ["octets_in","_law_well","_law_draw","_law_side","_law_deed","_law_done","_law_between","_law_due","_law_led_on","_law_latest","_law_seen"]
noncomputable def clsOf? (x:String):Option Cls:=if x="Buffer" then some .buffer else if x="Cache" then some .cache else if x="Disk" then some .disk else none
noncomputable def biOf? (x:String):Option Bi:=if x="len" then some .len else if x="bytes" then some .bytes else if x="bytearray" then some .bytearray else if x="list" then some .list
 else if x="dict" then some .dict else if x="sorted" then some .sorted else none
noncomputable def cOp:Operator→Option Op
 | .Add=>some .add| .Sub=>some .sub| .Mult=>some .mul| .FloorDiv=>some .fdiv| .Mod=>some .mod| .Pow=>some .pow|_=>none
noncomputable def qrg:CmpOp→Cmp
 | .Eq=> .eq| .NotEq=> .ne| .Lt=> .lt| .LtE=> .le| .Gt=> .gt| .GtE=> .ge| .Is=> .is| .IsNot=> .isnt| .In=> .isIn| .NotIn=> .notIn
noncomputable def qrp (sc:Scope) (x:Str):Bool:=match sc.names.lookup x with
 |some .local|some .cell|some .free=>true
 |_=>false
noncomputable def qta (sc:Scope) (x:Str):Bool:=sc.names.lookup x==some .globalImplicit
noncomputable def qbi (sc:Scope) (x:Str):Bool:=match sc.names.lookup x with
 |some .local|some .cell=>true
 |_=>false
noncomputable def qnu (sc:Scope):PySem.Expr→Option String
 | .Name x _=>if qta sc x then nm x else none
 |_=>none
noncomputable def qjr {α β:Type} (f:α→Option β):List α→Option (List β)
 | []=>some []
 |x::r=>match f x,qjr f r with
  |some y,some ys=>some (y::ys)
  |_,_=>none
noncomputable def qhe (f:ME→ME→ME):List ME→Option ME
 | []=>none
 | [a]=>some a
 |a::r=>(qhe f r).map (f a)
noncomputable def ql9 (x:Str):Bool:= !(x==Str.ofString "__debug__")&& !(x==Str.ofString "__classdict__")
noncomputable def csOk (sc isc:Scope) (x:Str):Bool:=
 decide (isc.kind= .function)&&decide ((isc.names.map (·.1)).Nodup)&&isc.names.all (fun p=> !(p.2== .local)||p.1==x||p.1==Str.ofString ".0")&&(isc.names.lookup x==some .local)&&
  isc.names.all (fun p=> !(p.2== .cell))&&isc.names.all (fun p=> !(p.2== .free)||(sc.names.lookup p.1==some .cell))&& !(x==Str.ofString ".0")
noncomputable def qhf:PySem.Expr→Bool
 | .Call .. | .List .. | .ListComp .. | .Attribute .. =>true
 | .Subscript v _ _=>match v with
  | .Name x _=> !(x==Str.ofString "__debug__")
  |_=>false
 | .Name x _=> !(x==Str.ofString "__debug__")
 |_=>false
noncomputable def qge:PySem.Expr→Bool| .Constant .. =>true|_=>false
noncomputable def qyw:Option PySem.Expr→Option String
 |some e=>match e with
  | .Constant c _ _=>match c with
   | .str s=>nm s
   |_=>none
  |_=>none
 |none=>none
noncomputable def qis:PySem.Expr→Bool| .Call .. =>true|_=>false
noncomputable def sliceOf? :PySem.Expr→Option (Option PySem.Expr×Option PySem.Expr×Option PySem.Expr)| .Slice a b c _=>some (a,b,c)|_=>none
noncomputable def nameOf? :PySem.Expr→Option Str| .Name x _=>some x|_=>none
noncomputable def tupOf? :PySem.Expr→Option (List PySem.Expr)| .Tuple es _ _=>some es|_=>none
noncomputable def attrOf? :PySem.Expr→Option (PySem.Expr×Str×PySem.Pos)| .Attribute v x p=>some (v,x,p)|_=>none
noncomputable def one? {α:Type}:List α→Option α
 | []=>none
 |a::r=>if r.isEmpty then some a else none
noncomputable def two? {α:Type}:List α→Option (α×α)
 | []=>none
 |a::r=>(one? r).map fun b=>(a,b)
noncomputable def qm9 (sc:Scope) (g:String):PySem.Expr→Option (List PySem.Expr)
 | .Call f args kw _=>if kw.isEmpty=true∧qnu sc f=some g then some args else none
 |_=>none
noncomputable def qhg (sc:Scope) (g:String) (e:PySem.Expr):Option PySem.Expr:=(qm9 sc g e).bind one?
noncomputable abbrev RecE:=Scope→PySem.Expr→Option ME
section
variable (r:RecE) (sc:Scope)
noncomputable def qtb:PySem.Const→Option ME
 | .int i=>some (.int i)
 | .none=>some .none
 | .bool b=>some (.bool b)
 | .str s=>(nm s).map .str
 |_=>none
noncomputable def qt7 (x:Str):Option ME:=if qrp sc x&&ql9 x then(nm x).map .var else none
noncomputable def qt8 (v:PySem.Expr) (x:Str):Option ME:=if qis v then none else(r sc v).bind fun m=>(nm x).map fun y=> .attr m y
noncomputable def qtc (v:PySem.Expr) (lo hi st:Option PySem.Expr):Option ME:=
 if st.isSome then none else match lo with
 |none=>match hi with
  |none=>none
  |some hi=>(r sc v).bind fun a=>(r sc hi).map fun b=> .sliceTo a b
 |some lo=>if hi.isSome then none else(r sc v).bind fun a=>(r sc lo).map fun b=> .sliceFrom a b
noncomputable def cSub (v i:PySem.Expr):Option ME:=match sliceOf? i with
 |some q=>qtc r sc v q.1 q.2.1 q.2.2
 |none=>(r sc v).bind fun a=>(r sc i).map fun b=> .item a b
noncomputable def cBin (a:PySem.Expr) (op:Operator) (b:PySem.Expr):Option ME:=(r sc a).bind fun x=>(cOp op).bind fun o=>(r sc b).map fun y=> .bin o x y
noncomputable def cUn (op:PySem.UnaryOp) (a:PySem.Expr):Option ME:=match op with
 | .USub=>(r sc a).map .neg
 | .Not=>(r sc a).map .not
 |_=>none
noncomputable def qt9 (a:PySem.Expr) (ops:List CmpOp) (bs:List PySem.Expr):Option ME:=(one? ops).bind fun o=>(one? bs).bind fun b=>(r sc a).bind fun x=>(r sc b).map fun y=> .cmp (qrg o) x y
noncomputable def qua (a:PySem.Expr) (ops:List CmpOp) (bs:List PySem.Expr):Option ME:=(two? ops).bind fun o=>(two? bs).bind fun b=>(r sc a).bind fun x=>(r sc b.1).bind fun y=>(r sc b.2).map fun z=> .chain x (qrg o.1) y (qrg o.2) z
noncomputable def qyx (op:PySem.BoolOp) (es:List PySem.Expr):Option ME:=(qjr (r sc) es).bind (match op with| .And=>qhe .and| .Or=>qhe .or)
noncomputable def cIf (c a b:PySem.Expr):Option ME:=(r sc c).bind fun x=>(r sc a).bind fun y=>(r sc b).map fun z=> .ite x y z
noncomputable def cTup (es:List PySem.Expr):Option ME:=if es.length≤1000 then(qjr (r sc) es).map .tup else none
noncomputable def cLst (es:List PySem.Expr):Option ME:=if es.length≤1000 then(qjr (r sc) es).map .lst else none
noncomputable def cDct (ks:List (Option PySem.Expr)) (es:List PySem.Expr):Option ME:=(qjr qyw ks).bind fun ks=>(qjr (r sc) es).bind fun es=>if ks.length=es.length∧ks.length≤15∧ks.Nodup then some (.dct ks es)else none
noncomputable def cSrc (it:PySem.Expr):Option (Nat×List ME):=match qm9 sc "range" it with
 |none=>(r sc it).map fun m=>(0,[m])
 |some as=>if as.length=1 then(one? as).bind fun a=>(r sc a).map fun m=>(1,[m])else(two? as).bind fun p=>(r sc p.1).bind fun x=>(r sc p.2).map fun y=>(2,[x,y])
noncomputable def qub (isc:Scope) (ifs:List PySem.Expr):Option (Option ME):=if ifs.isEmpty then some none else(one? ifs).bind fun c=>(r isc c).map some
noncomputable def quc (elt:PySem.Expr) (gs:List PySem.Comprehension) (isc:Scope):Option ME:=(one? gs).bind fun g=>if g.is_async=0 then
  (nameOf? g.target).bind fun x=>if csOk sc isc x then(cSrc r sc g.iter).bind fun s=>(qub r isc g.ifs).bind fun cond=>(r isc elt).bind fun e=>(nm x).map fun y=> .comp e y s.1 s.2 cond else none
 else none
noncomputable def qud (v:PySem.Expr) (x:Str) (ap:PySem.Pos) (args:List PySem.Expr) (pos:PySem.Pos):Option ME:=
 if qis v then none else if args.length<29∧ap.endLine=pos.line then(r sc v).bind fun m=>(nm x).bind fun y=>(qjr (r sc) args).map fun as=> .meth m y as else none
noncomputable def qrq (g:String) (args:List PySem.Expr):Option ME:=
 if g="isinstance" then(two? args).bind fun p=>if qnu sc p.2=some "int" then(r sc p.1).map fun m=> .bi .isInt [m]else none
 else if g="list" then(one? args).bind fun a=>match qhg sc "range" a with
  |some b=>(r sc b).map fun m=> .bi .listRange [m]
  |none=>match qhg sc "reversed" a with
   |some b=>(r sc b).map fun m=> .bi .listRev [m]
   |none=>(r sc a).map fun m=> .bi .list [m]
 else(qjr (r sc) args).bind fun as=>if g∈funNames then some (.call g as)else match clsOf? g with
  |some c=>some (.new c as)
  |none=>(biOf? g).map fun b=> .bi b as
noncomputable def que (f:PySem.Expr) (args:List PySem.Expr) (nokw:Bool) (pos:PySem.Pos):Option ME:=
 if nokw then match attrOf? f with
  |some q=>qud r sc q.1 q.2.1 q.2.2 args pos
  |none=>(qnu sc f).bind fun g=>qrq r sc g args
 else none
noncomputable def cE1:PySem.Expr→Option ME
 | .Constant c _ _=>qtb c
 | .Name x _=>qt7 sc x
 | .Attribute v x _=>qt8 r sc v x
 | .Subscript v i _=>cSub r sc v i
 | .BinOp a op b _=>cBin r sc a op b
 | .UnaryOp op a _=>cUn r sc op a
 | .Compare a ops bs _=>if ops.length=1 then qt9 r sc a ops bs else qua r sc a ops bs
 | .BoolOp op es _=>qyx r sc op es
 | .IfExp c a b _=>cIf r sc c a b
 | .Tuple es _ _=>cTup r sc es
 | .List es _=>cLst r sc es
 | .Dict ks es _=>cDct r sc ks es
 | .ListComp elt gs isc _=>quc r sc elt gs isc
 | .Call f args kw pos=>que r sc f args kw.isEmpty pos
 |_=>none
end
noncomputable def cEr:Nat→RecE
 |0=>fun _ _=>none
 |n+1=>cE1 (cEr n)
noncomputable def cE (sc:Scope) (n:Nat) (e:PySem.Expr):Option ME:=cEr n sc e
noncomputable def qig (sc:Scope) (e:PySem.Expr):Option String:=(nameOf? e).bind fun x=>if qbi sc x then nm x else none
noncomputable def quf (sc:Scope) (t:PySem.Expr):Option (String×String):=(tupOf? t).bind fun ts=>(two? ts).bind fun p=>(qig sc p.1).bind fun x=>(qig sc p.2).bind fun y=>if x≠y then some (x,y)else none
section
variable (sc:Scope) (e:PySem.Expr→Option ME) (b:List PySem.Stmt→Option (List MS))
noncomputable def qpc (ts:List PySem.Expr) (v:PySem.Expr):Option MS:=(qjr (qig sc) ts).bind fun xs=>match tupOf? v with
 |some es=>(qjr e es).bind fun ms=>if xs.length=ms.length∧xs.Nodup∧ms.length≤1000∧(es.all qge||es.any qhf)=true then some (.asgTup xs ms)else none
 |none=>(e v).map fun m=> .asgUnp xs m
noncomputable def qtd (v:PySem.Expr) (lo hi st:Option PySem.Expr) (u:PySem.Expr):Option MS:=
 if st.isSome then none else match lo with
 |none=>if hi.isSome then none else(e v).bind fun m=>(e u).map fun u=> .asgSlice m none none u
 |some lo=>match hi with
  |none=>none
  |some hi=>(e v).bind fun m=>(e lo).bind fun x=>(e hi).bind fun y=>(e u).map fun u=> .asgSlice m (some x) (some y) u
noncomputable def qma (v i u:PySem.Expr):Option MS:=match sliceOf? i with
 |some q=>qtd e v q.1 q.2.1 q.2.2 u
 |none=>(e v).bind fun m=>(e i).bind fun k=>(e u).map fun u=> .asgItem m k u
noncomputable def cAsg (t v:PySem.Expr):Option MS:=match t with
 | .Name x _=>(if qbi sc x then nm x else none).bind fun x=>(e v).map fun m=> .asgVar x m
 | .Tuple ts _ _=>qpc sc e ts v
 | .Attribute o x _=>(e o).bind fun m=>(nm x).bind fun y=>(e v).map fun u=> .asgAttr m y u
 | .Subscript o i _=>qma e o i v
 |_=>none
noncomputable def cAug (t:PySem.Expr) (op:Operator) (v:PySem.Expr):Option MS:=match t with
 | .Attribute o x _=>(e o).bind fun m=>(nm x).bind fun y=>(cOp op).bind fun q=>(e v).map fun u=> .augAttr m y q u
 | .Subscript o i _=>if(sliceOf? i).isSome then none else(e o).bind fun m=>(e i).bind fun k=>(cOp op).bind fun q=>(e v).map fun u=> .augItem m k q u
 |_=>none
noncomputable def cDel (t:PySem.Expr):Option MS:=match t with
 | .Subscript o i _=>(e o).bind fun m=>(e i).map fun k=> .delItem m k
 |_=>none
noncomputable def cFor (t it:PySem.Expr) (body:List PySem.Stmt):Option MS:=match qhg sc "range" it with
 |some a=>(qig sc t).bind fun x=>(e a).bind fun m=>(b body).map fun s=> .forRange x m s
 |none=>match qhg sc "reversed" it with
  |some a=>(qig sc t).bind fun x=>(e a).bind fun m=>(b body).map fun s=> .forRev x m s
  |none=>match qhg sc "enumerate" it with
   |some a=>(e a).bind fun m=>match quf sc t with
    |some p=>(b body).map fun s=> .forEnum p.1 p.2 m s
    |none=>some (.forEnum0 m)
   |none=>match tupOf? t with
    |some ts=>(qjr (qig sc) ts).bind fun xs=>(e it).bind fun m=>(b body).bind fun s=>if xs.Nodup then some (.forUnp xs m s)else none
    |none=>(qig sc t).bind fun x=>(e it).bind fun m=>(b body).map fun s=> .forL x m s
noncomputable def cS1:PySem.Stmt→Option MS
 | .Assign ts v _=>(one? ts).bind fun t=>cAsg sc e t v
 | .AugAssign t op v _=>cAug e t op v
 | .Expr v _=>if qis v then(e v).map .expr else none
 | .If c x y _=>(e c).bind fun m=>(b x).bind fun p=>(b y).map fun q=> .ifs m p q
 | .For t it body more _=>if more.isEmpty then cFor sc e b t it body else none
 | .Return v _=>match v with
  |some v=>(e v).map .ret
  |none=>some .retNone
 | .Delete ts _=>(one? ts).bind fun t=>cDel e t
 | .Raise .. =>some .raise
 | .Try body _ more fin _=>if more.isEmpty=true∧fin.isEmpty=true then(b body).map .tryB else none
 |_=>none
end
noncomputable def cSs (sc:Scope):Nat→List PySem.Stmt→Option (List MS)
 |0,_=>none
 |n+1,ss=>match ss with
  | []=>some []
  |s::r=>(cS1 sc (cE sc n) (cSs sc n) s).bind fun m=>(cSs sc n r).map fun ms=>m::ms
structure FD where
 name:Str
 args:PySem.Arguments
 body:List PySem.Stmt
 scope:Scope
 bind:Str
noncomputable def clsIn? (x:Str):List PySem.Stmt→Option (List PySem.Stmt)
 | []=>none
 | .ClassDef name _ _ body .. ::r=>if name=x then some body else clsIn? x r
 |_::r=>clsIn? x r
noncomputable def qdv:Cls→String
 | .buffer=> "Buffer" | .cache=> "Cache" | .disk=> "Disk"
end Mine
end
noncomputable section
namespace Mine
open PySem PySem.Calls PyProof.Rows PySem.W
inductive All2 {α β:Type} (R:α→β→Prop):List α→List β→Prop
 |nil:All2 R [] []
 |cons {x y xs ys}:R x y→All2 R xs ys→All2 R (x::xs) (y::ys)
namespace All2
variable {α β:Type} {R:α→β→Prop}
theorem length {xs:List α} {ys:List β} (h:All2 R xs ys):xs.length=ys.length:=by
 induction h with
 |nil=>rfl
 |cons _ _ ih=>simp [ih]
theorem mono {R':α→β→Prop} {xs:List α} {ys:List β} (h:All2 R xs ys) (k: ∀x y,R x y→R' x y):All2 R' xs ys:=by
 induction h with
 |nil=>exact .nil
 |cons h _ ih=>exact .cons (k _ _ h) ih
theorem append {xs xs':List α} {ys ys':List β} (h:All2 R xs ys) (h':All2 R xs' ys'):All2 R (xs++xs') (ys++ys'):=by
 induction h with
 |nil=>exact h'
 |cons h _ ih=>exact .cons h ih
theorem one {x:α} {y:β} (h:R x y):All2 R [x] [y]:= .cons h .nil
theorem get {xs:List α} {ys:List β} (h:All2 R xs ys) {i:Nat} {x:α} (e:xs[i]? =some x): ∃y,ys[i]? =some y∧R x y:=by
 induction h generalizing i with
 |nil=>simp at e
 |cons h _ ih=>cases i with
  |zero=>simp at e;subst e;exact⟨_,by simp,h⟩
  |succ i=>simp at e;refine qac (ih e) fun y a b=>?_;exact⟨y,by simpa using a,b⟩
theorem getR {xs:List α} {ys:List β} (h:All2 R xs ys) {i:Nat} {y:β} (e:ys[i]? =some y): ∃x,xs[i]? =some x∧R x y:=by
 induction h generalizing i with
 |nil=>simp at e
 |cons h _ ih=>cases i with
  |zero=>simp at e;subst e;exact⟨_,by simp,h⟩
  |succ i=>simp at e;refine qac (ih e) fun y a b=>?_;exact⟨y,by simpa using a,b⟩
theorem take {xs:List α} {ys:List β} (h:All2 R xs ys) (n:Nat):All2 R (xs.take n) (ys.take n):=by
 induction h generalizing n with
 |nil=>simp;exact .nil
 |cons h _ ih=>cases n with
  |zero=>exact .nil
  |succ n=>exact .cons h (ih n)
theorem drop {xs:List α} {ys:List β} (h:All2 R xs ys) (n:Nat):All2 R (xs.drop n) (ys.drop n):=by
 induction h generalizing n with
 |nil=>simp;exact .nil
 |cons h t ih=>cases n with
  |zero=>exact .cons h t
  |succ n=>exact ih n
theorem reverse {xs:List α} {ys:List β} (h:All2 R xs ys):All2 R xs.reverse ys.reverse:=by
 induction h with
 |nil=>exact .nil
 |cons h _ ih=>rw [List.reverse_cons,List.reverse_cons];exact ih.append (one h)
theorem set {xs:List α} {ys:List β} (h:All2 R xs ys) (n:Nat) {x:α} {y:β} (r:R x y):All2 R (xs.set n x) (ys.set n y):=by
 induction h generalizing n with
 |nil=>exact .nil
 |cons h t ih=>cases n with
  |zero=>exact .cons r t
  |succ n=>exact .cons h (ih n)
theorem erase {xs:List α} {ys:List β} (h:All2 R xs ys) (n:Nat):All2 R (xs.eraseIdx n) (ys.eraseIdx n):=by
 induction h generalizing n with
 |nil=>exact .nil
 |cons h t ih=>cases n with
  |zero=>exact t
  |succ n=>exact .cons h (ih n)
theorem of_map {γ:Type} {S:γ→β→Prop} {f:α→γ} {xs:List α} {ys:List β} (h:All2 S (xs.map f) ys):All2 (fun x y=>S (f x) y) xs ys:=by
 induction xs generalizing ys with
 |nil=>cases h;exact .nil
 |cons x xs ih=>cases h with|cons a b=>exact .cons a (ih b)
end All2
noncomputable abbrev Rho:=Loc→Addr
noncomputable def VR (ρ:Rho) (k:Nat) (v:V) (x:Value):Prop:=match v with
 | .none=>x= .none
 | .bool b=>x= .bool b
 | .int i=> ∃t,x= .int i t
 | .str s=> ∃t,x= .str (Str.ofString s) t
 | .bytes b=> ∃t,x= .bytes b.toArray t
 | .ref l=>l.n<k∧x= .ref (ρ l)
noncomputable def Agree (k:Nat) (ρ ρ':Rho):Prop:= ∀l:Loc,l.n<k→ρ' l=ρ l
theorem Agree.refl (k:Nat) (ρ:Rho):Agree k ρ ρ:=fun _ _=>rfl
theorem Agree.trans {k k':Nat} {ρ ρ' ρ'':Rho} (a:Agree k ρ ρ') (b:Agree k' ρ' ρ'') (h:k≤k'):Agree k ρ ρ'':=fun l hl=>(b l (Nat.lt_of_lt_of_le hl h)).trans (a l hl)
theorem VR.mono {ρ ρ':Rho} {k k':Nat} {v:V} {x:Value} (h:VR ρ k v x) (a:Agree k ρ ρ') (hk:k≤k'):VR ρ' k' v x:=by
 cases v with
 |ref l=>exact⟨Nat.lt_of_lt_of_le h.1 hk,by rw [h.2,a l h.1]⟩
 |_=>exact h
noncomputable abbrev prog:Program:=PySem.Challenge.pw_up0077_01
structure qc5 (prog:Program) (w:World) where
 B:Heap
 K:Frag
 X:K.In B
 cA:Cls→Addr
 sysM:(B.get? sysModules).isSome=true
section
variable {w:World} (S:qc5 prog w)
noncomputable def OR (ρ:Rho) (k:Nat) (h:Heap) (l:Loc) (o:MObj):Prop:=match l,o with
 | .inst c n,.inst fs=>h.get? (ρ (.inst c n))=some (instObj (S.cA c) (ρ (.idict c n)))∧
   ∃es ep,h.get? (ρ (.idict c n))=some {cls:= .type "dict",data:= .dict es ep}∧All2 (fun(p:String×V) (e:DictEntry)=>(∃t,e.key= .str (Str.ofString p.1) t)∧VR ρ k p.2 e.val) fs es.toList∧fs.length≤1000∧ ∀p∈fs,p.1∈fieldNames
 | .list n,.list vs=> ∃its,h.PlainList (ρ (.list n)) its.toArray∧All2 (VR ρ k) vs its∧vs.length≤200000
 | .tup n,.tup vs=> ∃its m,h.get? (ρ (.tup n))=some {cls:= .type "tuple",data:= .seq its.toArray m}∧All2 (VR ρ k) vs its
 | .dict n,.dictI kvs=> ∃ps,h.DictOf (intKind prog w) (ρ (.dict n)) ps∧All2 (fun(p:Int×V) (q:Int×Value)=>p.1=q.1∧VR ρ k p.2 q.2) kvs ps∧kvs.length≤200000
 | .dict n,.dictS kvs=> ∃ps,h.DictOf (strKind prog w) (ρ (.dict n)) ps∧All2 (fun(p:String×V) (q:Str×Value)=>q.1=Str.ofString p.1∧VR ρ k p.2 q.2) kvs ps
 | .barr n,.barr b=>h.get? (ρ (.barr n))=some {cls:= .type "bytearray",data:= .bytearray b.toArray 0}
 |_,_=>False
noncomputable def qdw (σ:St):Loc→Prop
 | .idict c n=>(σ.heap (.inst c n)).isSome=true
 |l=>(σ.heap l).isSome=true
structure Rel (ρ:Rho) (σ:St) (s:Shared):Prop where
 base: ∀b o,S.B.get? b=some o→s.heap.get? b=some o
 fresh: ∀l,qdw σ l→l≠ .list 0→S.B.get? (ρ l)=none
 inj: ∀l l',qdw σ l→qdw σ l'→ρ l=ρ l'→l=l'
 lt: ∀l,qdw σ l→l.n<σ.next
 obj: ∀l o,σ.heap l=some o→OR S ρ σ.next s.heap l o
 noi: ∀c n,σ.heap (.idict c n)=none
noncomputable def Own (ρ:Rho) (σ:St) (b:Addr):Prop:= ∃l,qdw σ l∧ρ l=b
noncomputable def qal:Loc→List Loc
 | .inst c n=> [.inst c n,.idict c n]
 |l=> [l]
variable {S}
set_option tactic.hygienic true in
theorem OR.heap {ρ:Rho} {k:Nat} {h h':Heap} {l:Loc} {o:MObj} (x:OR S ρ k h l o) (hk: ∀l'∈qal l,∀ob,h.get? (ρ l')=some ob→h'.get? (ρ l')=some ob):OR S ρ k h' l o:=by
 unfold OR at x ⊢;split at x
 ·rename_i c n fs
  obtain⟨a,es,ep,b,r⟩:=x
  exact⟨hk _ (by simp [qal]) _ a,es,ep,hk _ (by simp [qal]) _ b,r⟩
 ·refine qac x fun its a r=>?_
  exact⟨its,a.at (hk _ (by simp [qal])),r⟩
 ·refine qcv x fun its m a r=>?_
  exact⟨its,m,hk _ (by simp [qal]) _ a,r⟩
 ·refine qac x fun ps z5_1 r'=>?_;refine qga z5_1 fun ob es ep ho r=>?_
  exact⟨ps,⟨ob,es,ep,hk _ (by simp [qal]) _ ho,r⟩,r'⟩
 ·refine qac x fun ps z6_1 r'=>?_;refine qga z6_1 fun ob es ep ho r=>?_
  exact⟨ps,⟨ob,es,ep,hk _ (by simp [qal]) _ ho,r⟩,r'⟩
 ·exact hk _ (by simp [qal]) _ x
 ·exact x.elim
noncomputable def qug:Loc→Loc
 | .idict c n=> .inst c n
 |l=>l
theorem qna {l lc:Loc} (h:lc∈qal l) (hn: ¬ ∃c n,l= .idict c n):qug lc=l:=by
 cases l<;>simp [qal]at h
 ·rcases h with rfl|rfl<;>rfl
 ·exact absurd ⟨_,_,rfl⟩ hn
 all_goals (subst h;rfl)
theorem qks {l l':Loc} (h:l'∈qal l):l'.n=l.n:=by
 cases l<;>simp [qal]at h<;>(try (rcases h with rfl|rfl<;>rfl))<;>(subst h;rfl)
set_option tactic.hygienic true in
theorem OR.rho {ρ ρ':Rho} {k k':Nat} {h:Heap} {l:Loc} {o:MObj} (x:OR S ρ k h l o) (hl:l.n<k) (a:Agree k ρ ρ') (hk:k≤k'):OR S ρ' k' h l o:=by
 have e: ∀l'∈qal l,ρ' l'=ρ l':=fun l' h'=>a l' (by rw [qks h'];exact hl)
 unfold OR at x ⊢;split at x
 ·rename_i c n fs
  obtain⟨x1,es,ep,b,r,q⟩:=x
  have e1:=e (.inst c n) (by simp [qal])
  have e2:=e (.idict c n) (by simp [qal])
  exact⟨by rw [e1,e2];exact x1,es,ep,by rw [e2];exact b,r.mono fun _ _ y=>⟨y.1,y.2.mono a hk⟩,q⟩
 ·refine qao x fun its x1 r q=>?_
  exact⟨its,by rw [e _ (by simp [qal])];exact x1,r.mono fun _ _ y=>y.mono a hk,q⟩
 ·refine qcv x fun its m x1 r=>?_
  exact⟨its,m,by rw [e _ (by simp [qal])];exact x1,r.mono fun _ _ y=>y.mono a hk⟩
 ·refine qao x fun ps x1 r q=>?_
  exact⟨ps,by rw [e _ (by simp [qal])];exact x1,r.mono fun _ _ y=>⟨y.1,y.2.mono a hk⟩,q⟩
 ·refine qac x fun ps x1 r=>?_
  exact⟨ps,by rw [e _ (by simp [qal])];exact x1,r.mono fun _ _ y=>⟨y.1,y.2.mono a hk⟩⟩
 ·rw [e _ (by simp [qal])];exact x
 ·exact x.elim
theorem OR.there {ρ:Rho} {k:Nat} {h:Heap} {l l':Loc} {o:MObj} (x:OR S ρ k h l o) (hl:l'∈qal l): ∃ob,h.get? (ρ l')=some ob:=by
 unfold OR at x;split at x
 ·obtain⟨a,es,ep,b,r⟩:=x
  simp [qal]at hl
  rcases hl with rfl|rfl
  ·exact⟨_,a⟩
  ·exact⟨_,b⟩
 ·refine qac x fun its z13_1 r=>?_;refine qaj z13_1 fun _ a=>?_;simp [qal]at hl;subst hl;exact⟨_,a⟩
 ·refine qcv x fun its m a r=>?_;simp [qal]at hl;subst hl;exact⟨_,a⟩
 ·refine qac x fun ps z15_1 r'=>?_;refine qga z15_1 fun ob es ep ho r=>?_;simp [qal]at hl;subst hl;exact⟨_,ho⟩
 ·refine qac x fun ps z16_1 r'=>?_;refine qga z16_1 fun ob es ep ho r=>?_;simp [qal]at hl;subst hl;exact⟨_,ho⟩
 ·simp [qal]at hl;subst hl;exact⟨_,x⟩
 ·exact x.elim
theorem qdx {σ:St} {l:Loc} {o:MObj} (e:σ.heap l=some o) (hn: ∀c n,σ.heap (.idict c n)=none) {l':Loc} (h:l'∈qal l):qdw σ l':=by
 cases l with
 |inst c n=>
  simp [qal]at h
  rcases h with rfl|rfl
  ·simp [qdw,e]
  ·simp [qdw,e]
 |idict c n=>rw [hn]at e;exact qa3 e
 |_=>simp [qal]at h;subst h;simp [qdw,e]
theorem quh {σ:St} {l':Loc} (h:qdw σ l') {GG:Prop} (kk: ∀l o,σ.heap l=some o→l'∈qal l→GG):GG:=by
 cases l' with
 |idict c n=>refine qaj (Option.isSome_iff_exists.mp h) fun o e=>?_;exact kk (.inst c n) o e (by simp [qal])
 |_=>refine qaj (Option.isSome_iff_exists.mp h) fun o e=>?_;exact kk _ o e (by simp [qal])
theorem Rel.cellThere {ρ:Rho} {σ:St} {s:Shared} (x:Rel S ρ σ s) {l:Loc} (h:qdw σ l): ∃ob,s.heap.get? (ρ l)=some ob:=by
 refine quh h fun l' o e hm=>?_
 exact(x.obj l' o e).there hm
structure Post (S:qc5 prog w) (F:Addr→Prop) (ρ:Rho) (σ:St) (s:Shared) (ρ':Rho) (σ':St) (s':Shared):Prop where
 agree:Agree σ.next ρ ρ'
 le:σ.next≤σ'.next
 rel:Rel S ρ' σ' s'
 kept: ∀b o,s.heap.get? b=some o→ ¬Own ρ σ b→ ¬F b→s'.heap.get? b=some o
 stay: ∀b o,s.heap.get? b=some o→ ∃o',s'.heap.get? b=some o'
 own: ∀b,Own ρ' σ' b→Own ρ σ b∨s.heap.get? b=none
 gens:s'.gens=s.gens
 os:s'.os=s.os
noncomputable def noF:Addr→Prop:=fun _=>False
theorem Post.refl {F:Addr→Prop} {ρ:Rho} {σ:St} {s:Shared} (x:Rel S ρ σ s):Post S F ρ σ s ρ σ s:=
 ⟨.refl _ _,Nat.le_refl _,x,fun _ _ e _ _=>e,fun _ o e=>⟨o,e⟩,fun _ h=> .inl h,rfl,rfl⟩
theorem Post.trans {F:Addr→Prop} {ρ ρ' ρ'':Rho} {σ σ' σ'':St} {s s' s'':Shared} (a:Post S F ρ σ s ρ' σ' s') (b:Post S F ρ' σ' s' ρ'' σ'' s''):Post S F ρ σ s ρ'' σ'' s'' where
 agree:=a.agree.trans b.agree a.le
 le:=Nat.le_trans a.le b.le
 rel:=b.rel
 kept:=fun x o e ho hf=>b.kept x o (a.kept x o e ho hf) (fun h=>(a.own x h).elim ho fun q=>by rw [e]at q;cases q) hf
 stay:=fun x o e=>let⟨o',e'⟩:=a.stay x o e;b.stay x o' e'
 own:=fun x h=>(b.own x h).elim (a.own x) fun q=> .inr (by
  cases e:s.heap.get? x with
  |none=>rfl
  |some o=>refine qaj (a.stay x o e) fun o' e'=>?_;rw [q]at e';cases e')
 gens:=b.gens.trans a.gens
 os:=b.os.trans a.os
theorem Post.weak {F G:Addr→Prop} {ρ ρ':Rho} {σ σ':St} {s s':Shared} (a:Post S F ρ σ s ρ' σ' s') (h: ∀b o,s.heap.get? b=some o→F b→G b):Post S G ρ σ s ρ' σ' s':=
 {a with kept:=fun x o e ho hf=>a.kept x o e ho fun q=>hf (h x o e q)}
theorem Rel.keeps {ρ:Rho} {σ:St} {s:Shared} (x:Rel S ρ σ s) {h':Heap} {tk:Nat} (hk: ∀b o,s.heap.get? b=some o→h'.get? b=some o):Rel S ρ σ {s with heap:=h',toks:=tk}:=
 ⟨fun b o e=>hk b o (x.base b o e),x.fresh,x.inj,x.lt,fun l o e=>(x.obj l o e).heap fun _ _ _ e=>hk _ _ e,x.noi⟩
theorem Post.keeps {F:Addr→Prop} {ρ:Rho} {σ:St} {s:Shared} (x:Rel S ρ σ s) {h':Heap} {tk:Nat} (hk: ∀b o,s.heap.get? b=some o→h'.get? b=some o):Post S F ρ σ s ρ σ {s with heap:=h',toks:=tk}:=
 ⟨.refl _ _,Nat.le_refl _,x.keeps hk,fun b o e _ _=>hk b o e,fun b o e=>⟨o,hk b o e⟩,fun _ h=> .inl h,rfl,rfl⟩
theorem Post.toks {F:Addr→Prop} {ρ:Rho} {σ:St} {s:Shared} (x:Rel S ρ σ s) {tk:Nat}:Post S F ρ σ s ρ σ {s with toks:=tk}:=Post.keeps (h':=s.heap) x (fun _ _ e=>e)
theorem Post.storeU {F:Addr→Prop} {ρ:Rho} {σ:St} {s:Shared} (x:Rel S ρ σ s) {l lc:Loc} {o o':MObj} {h':Heap} {tk:Nat} (e:σ.heap l=some o) (hc:lc∈qal l) (h0:l≠ .list 0)
  (hs: ∀b ob,b≠ρ lc→s.heap.get? b=some ob→h'.get? b=some ob) (hn:OR S ρ σ.next h' l o'):Post S F ρ σ s ρ (σ.set l o') {s with heap:=h',toks:=tk}:=by
 have cell: ∀l',qdw (σ.set l o') l' ↔ qdw σ l':=by
  intro l';have k: ∀l'',((σ.set l o').heap l'').isSome=(σ.heap l'').isSome:=fun l''=>by
   show(if l''=l then some o' else σ.heap l'').isSome=_
   split
   ·rename_i q;subst q;rw [e];rfl
   ·rfl
  cases l'<;>simp only [qdw,k]
 have own: ∀b,Own ρ (σ.set l o') b ↔ Own ρ σ b:=fun b=>⟨fun⟨l',a,q⟩=>⟨l',(cell l').mp a,q⟩,fun⟨l',a,q⟩=>⟨l',(cell l').mpr a,q⟩⟩
 have clc:=qdx e x.noi hc
 have hc0:lc≠ .list 0:=fun q=>by
  subst q;cases l<;>simp [qal]at hc
  exact h0 (by rw [hc])
 have up:=hs
 refine⟨.refl _ _,Nat.le_refl _,⟨fun b ob eb=>up b ob (fun q=>by have:=x.fresh lc clc hc0;rw [←q,eb]at this;cases this) (x.base b ob eb),fun l' h=>x.fresh l' ((cell l').mp h),
  fun l₁ l₂ a b q=>x.inj l₁ l₂ ((cell _).mp a) ((cell _).mp b) q,fun l' h=>x.lt l' ((cell l').mp h),fun l' ob el=>?_,fun c n=>?_⟩,
  fun b ob eb hb _=>up b ob (fun q=>hb ⟨lc,clc,q.symm⟩) eb,fun b ob eb=>?_,fun b h=> .inl ((own b).mp h),rfl,rfl⟩
 ·have el':(if l'=l then some o' else σ.heap l')=some ob:=el
  by_cases q:l'=l
  ·subst q;rw [if_pos rfl]at el';refine qct el' ?_;exact hn
  ·rw [if_neg q]at el';refine(x.obj l' ob el').heap fun l'' hm ob' eb=>up _ _ (fun z=>?_) eb
   have:=x.inj l'' lc (qdx el' x.noi hm) clc z
   subst this;exact q ((qna hm (by rintro ⟨c,n,rfl⟩;rw [x.noi]at el';cases el')).symm.trans (qna hc (by rintro ⟨c,n,rfl⟩;rw [x.noi]at e;cases e)))
 ·show(if Loc.idict c n=l then some o' else σ.heap (.idict c n))=none
  rw [if_neg (fun q=>by rw [←q,x.noi]at e;cases e)];exact x.noi c n
 ·by_cases q:b=ρ lc
  ·subst q;have: ∃ob,h'.get? (ρ lc)=some ob:=hn.there hc
   exact this
  ·exact⟨ob,up b ob q eb⟩
theorem Post.store {F:Addr→Prop} {ρ:Rho} {σ:St} {s:Shared} (x:Rel S ρ σ s) {l lc:Loc} {o o':MObj} {h':Heap} {tk:Nat} (e:σ.heap l=some o) (hc:lc∈qal l) (h0:l≠ .list 0)
  (hs:Heap.SameBut (ρ lc) s.heap h') (hn:OR S ρ σ.next h' l o'):Post S F ρ σ s ρ (σ.set l o') {s with heap:=h',toks:=tk}:=
 Post.storeU x e hc h0 (fun b ob hb eb=>(hs.2 b hb).trans eb) hn
end
end Mine
end
noncomputable section
namespace Mine
open PySem PySem.Calls PyProof.Rows PySem.W
section
variable {w:World} {S:qc5 prog w}
theorem Post.alloc {F:Addr→Prop} {ρ ρ':Rho} {σ:St} {s:Shared} (x:Rel S ρ σ s) {l:Loc} {o:MObj} {h':Heap} {tk:Nat} (hl:l.n=σ.next) (hd: ¬ ∃c n,l= .idict c n)
  (ag:Agree σ.next ρ ρ') (hk: ∀b o,s.heap.get? b=some o→h'.get? b=some o) (hnew: ∀l'∈qal l,s.heap.get? (ρ' l')=none)
  (hinj: ∀l₁∈qal l,∀l₂∈qal l,ρ' l₁=ρ' l₂→l₁=l₂) (hn:OR S ρ' (σ.next+1) h' l o):
  Post S F ρ σ s ρ' ⟨upd σ.heap l o,σ.next+1⟩ {s with heap:=h',toks:=tk}:=by
 have none_:σ.heap l=none:=by
  cases e:σ.heap l with
  |none=>rfl
  |some o'=>have:=x.lt l (qdx e x.noi (by cases l<;>simp [qal]));(with_reducible exact qwb ‹_› ‹_›)
 have cell: ∀l',qdw (⟨upd σ.heap l o,σ.next+1⟩:St) l'→qdw σ l'∨l'∈qal l:=by
  intro l' h;have k: ∀l'',((⟨upd σ.heap l o,σ.next+1⟩:St).heap l'').isSome=true→(σ.heap l'').isSome=true∨l''=l:=fun l'' h=>by
   have h:(if l''=l then some o else σ.heap l'').isSome=true:=h
   by_cases q:l''=l
   ·exact .inr q
   ·rw [if_neg q]at h;exact .inl h
  cases l' with
  |idict c n=>
   rcases k (.inst c n) h with q|q
   ·exact .inl q
   ·subst q;exact .inr (by simp [qal])
  |_=>
   rcases k _ h with q|q
   ·exact .inl q
   ·subst q;exact .inr (by simp [qal])
 have old: ∀l',qdw σ l'→ρ' l'=ρ l':=fun l' h=>ag l' (x.lt l' h)
 have apart: ∀l₁ l₂,qdw σ l₁→l₂∈qal l→ρ' l₁=ρ' l₂→l₁=l₂:=fun l₁ l₂ a b q=>by
  rw [old l₁ a]at q;refine qaj (x.cellThere a) fun ob e=>?_
  rw [q,hnew l₂ b]at e;exact qa3 e
 refine⟨ag,Nat.le_succ _,⟨fun b ob e=>hk b ob (x.base b ob e),fun l' h h0=>?_,fun l₁ l₂ a b q=>?_,fun l' h=>?_,fun l' ob el=>?_,fun c n=>?_⟩,
  fun b ob e _ _=>hk b ob e,fun b ob e=>⟨ob,hk b ob e⟩,fun b ⟨l',h,q⟩=>?_,rfl,rfl⟩
 ·rcases cell l' h with h|h
  ·rw [old l' h];exact x.fresh l' h h0
  ·cases e:S.B.get? (ρ' l')with
   |none=>rfl
   |some ob=>have:=x.base _ _ e;rw [hnew l' h]at this;exact qa3 this
 ·rcases cell l₁ a with a|a<;>rcases cell l₂ b with b|b
  ·exact x.inj _ _ a b (by rw [←old _ a,←old _ b];exact q)
  ·exact apart _ _ a b q
  ·exact(apart _ _ b a q.symm).symm
  ·exact hinj _ a _ b q
 ·rcases cell l' h with h|h
  ·exact Nat.lt_succ_of_lt (x.lt l' h)
  ·rw [qks h,hl];exact Nat.lt_succ_self _
 ·have el:(if l'=l then some o else σ.heap l')=some ob:=el
  by_cases q:l'=l
  ·subst q;rw [if_pos rfl]at el;refine qct el ?_;exact hn
  ·rw [if_neg q]at el;exact((x.obj l' ob el).heap fun _ _ ob' e=>hk _ ob' e).rho (x.lt l' (qdx el x.noi (by cases l'<;>simp [qal]))) ag (Nat.le_succ _)
 ·show(if Loc.idict c n=l then some o else σ.heap (.idict c n))=none
  rw [if_neg (fun q=>hd ⟨c,n,q.symm⟩)];exact x.noi c n
 ·rcases cell l' h with h|h
  ·exact .inl ⟨l',h,by rw [←old l' h];exact q⟩
  ·exact .inr (q ▸ hnew l' h)
noncomputable def qgs (ρ:Rho) (l:Loc) (a:Addr):Rho:=fun l'=>if l'=l then a else ρ l'
theorem qa2 (ρ:Rho) (l:Loc) (a:Addr):qgs ρ l a l=a:=if_pos rfl
theorem qbz {ρ:Rho} {l:Loc} {a:Addr} {k:Nat} (h:l.n=k):Agree k ρ (qgs ρ l a):=fun l' hl=>if_neg fun q=>by subst q;(with_reducible exact qwb ‹_› ‹_›)
theorem Post.alloc1 {F:Addr→Prop} {ρ:Rho} {σ:St} {s:Shared} (x:Rel S ρ σ s) {l:Loc} {o:MObj} {h':Heap} {tk:Nat} {a:Addr} (hl:l.n=σ.next) (hc:qal l= [l]) (hd: ¬ ∃c n,l= .idict c n)
  (hk: ∀b o,s.heap.get? b=some o→h'.get? b=some o) (hnew:s.heap.get? a=none)
  (hn:OR S (qgs ρ l a) (σ.next+1) h' l o):
  Post S F ρ σ s (qgs ρ l a) ⟨upd σ.heap l o,σ.next+1⟩ {s with heap:=h',toks:=tk}:=
 Post.alloc x hl hd (qbz hl) hk (fun l' h=>by rw [hc]at h;simp at h;subst h;rw [qa2];exact hnew) (fun l₁ h₁ l₂ h₂ _=>by rw [hc]at h₁ h₂;simp at h₁ h₂;rw [h₁,h₂]) hn
structure EnvFor (sc:Scope) (env:Env):Prop where
 kind:env.scope.kind= .function
 glob:env.globals=mainGlobals
 blt:env.builtins=builtinsNs
 loc: ∀x,sc.names.lookup x=some .local→env.kindOf x=some .local
 cell: ∀x,sc.names.lookup x=some .cell→env.kindOf x=some .cell
 free: ∀x,sc.names.lookup x=some .free→env.kindOf x=some .cell∨env.kindOf x=some .free
 gl: ∀x,sc.names.lookup x=some .globalImplicit→env.kindOf x=some .globalImplicit
noncomputable def FrA (env:Env) (b:Addr):Prop:=b=env.locals∨ ∃x,env.cells.lookup x=some b
structure FR (S:qc5 prog w) (ρ:Rho) (σ:St) (env:Env) (l:Locs) (h:Heap):Prop where
 ns: ∃m,h.Ns env.locals m∧ ∀x v,l x=some v→env.kindOf (Str.ofString x)=some .local→ ∃y,m (Str.ofString x)=some y∧VR ρ σ.next v y
 cel: ∀x v,l x=some v→env.kindOf (Str.ofString x)=some .cell∨env.kindOf (Str.ofString x)=some .free→ ∃c y,env.cells.lookup (Str.ofString x)=some c∧h.IsCell c (some y)∧VR ρ σ.next v y
 all: ∀x,env.kindOf x=some .cell→ ∃c y,env.cells.lookup x=some c∧h.IsCell c y
 there: ∀x c,env.cells.lookup x=some c→ ∃y,h.IsCell c y
 no: ∀b,FrA env b→ ¬Own ρ σ b
 bs: ∀b,FrA env b→S.B.get? b=none
 ap: ∀x y c,env.cells.lookup x=some c→env.cells.lookup y=some c→x=y
 lc: ∀x c,env.cells.lookup x=some c→c≠env.locals
theorem FR.frThere {ρ:Rho} {σ:St} {env:Env} {l:Locs} {h:Heap} (f:FR S ρ σ env l h) {b:Addr} (hb:FrA env b): ∃o,h.get? b=some o:=by
 rcases hb with rfl|⟨x,hx⟩
 ·refine qac f.ns fun m z1_1 _=>?_;refine qga z1_1 fun o _ _ ho _=>?_;exact⟨o,ho⟩
 ·refine qcv (f.there x b hx) fun y o ho _=>?_;exact⟨o,ho⟩
theorem FR.post {ρ ρ':Rho} {σ σ':St} {s s':Shared} {env:Env} {l:Locs} {F:Addr→Prop} (f:FR S ρ σ env l s.heap) (p:Post S F ρ σ s ρ' σ' s') (hF: ∀b,FrA env b→ ¬F b):FR S ρ' σ' env l s'.heap:=by
 have up: ∀b o,FrA env b→s.heap.get? b=some o→s'.heap.get? b=some o:=fun b o hb e=>p.kept b o e (f.no b hb) (hF b hb)
 refine⟨?_,fun x v e k=>?_,fun x k=>?_,fun x c hc=>?_,fun b hb ho=>?_,f.bs,f.ap,f.lc⟩
 ·refine qac f.ns fun m hm k=>?_
  exact⟨m,hm.at' fun o e=>up _ o (.inl rfl) e,fun x v e kl=>let⟨y,a,b⟩:=k x v e kl;⟨y,a,b.mono p.agree p.le⟩⟩
 ·refine qfj (f.cel x v e k) fun c y hc z4_3 hv=>?_;refine qac z4_3 fun o ho hd=>?_
  exact⟨c,y,hc,⟨o,up c o (.inr ⟨_,hc⟩) ho,hd⟩,hv.mono p.agree p.le⟩
 ·obtain⟨c,y,hc,o,ho,hd⟩:=f.all x k
  exact⟨c,y,hc,o,up c o (.inr ⟨_,hc⟩) ho,hd⟩
 ·refine qcv (f.there x c hc) fun y o ho hd=>?_
  exact⟨y,o,up c o (.inr ⟨_,hc⟩) ho,hd⟩
 ·refine qaj (f.frThere hb) fun o e=>?_
  exact(p.own b ho).elim (f.no b hb) fun q=>by rw [e]at q;cases q
theorem qfn {P:Addr→Prop}: ∀b,P b→ ¬noF b:=fun _ _ h=>h
theorem qbq {a b:String} (h:Str.ofString a=Str.ofString b):a=b:=by
 rw [Str.ofString_eq_toList,Str.ofString_eq_toList]at h;have h:(a.toList.map Char.toNat).toArray=(b.toList.map Char.toNat).toArray:=congrArg Str.cps h
 have h:a.toList.map Char.toNat=b.toList.map Char.toNat:=by simpa using h
 have inj: ∀x y:Char,x.toNat=y.toNat→x=y:=fun x y e=>Char.ext (UInt32.toNat_inj.mp e)
 have:a.toList=b.toList:=by
  revert h;generalize a.toList=xs;generalize b.toList=ys
  induction xs generalizing ys with
  |nil=>intro h;cases ys with|nil=>rfl|cons y ys=>cases h
  |cons x xs ih=>intro h;cases ys with
   |nil=>cases h
   |cons y ys=>simp only [List.map_cons,List.cons.injEq]at h;rw [inj _ _ h.1,ih _ h.2]
 exact String.toList_inj.mp this
theorem qd0 {M:Model} {A:Around} {E:Value→Shared→Prop} {ρ:Rho} {σ:St} {s:Shared} {env:Env} {l:Locs} {x:String} {v:V} {y:Value} {Q:Unit→Shared→Prop} (R:Rel S ρ σ s) (f:FR S ρ σ env l s.heap)
  (hk:env.scope.kind= .function) (hx:env.kindOf (Str.ofString x)=some .local∨env.kindOf (Str.ofString x)=some .cell) (hv:VR ρ σ.next v y)
  (h: ∀s',Post S (FrA env) ρ σ s ρ σ s'→FR S ρ σ env (l.set x v) s'.heap→Q () s'):wpAny M A (storeName env (Str.ofString x) y) Q E s:=by
 have fin: ∀(a:Addr) (h':Heap) (tk:Nat),FrA env a→Heap.SameBut a s.heap h'→(∃o,h'.get? a=some o)→FR S ρ σ env (l.set x v) h'→Q () {s with heap:=h',toks:=tk}:=fun a h' tk ha hs hth hf=>by
  have no:=f.no a ha
  have up: ∀b o,b≠a→s.heap.get? b=some o→h'.get? b=some o:=fun b o hb e=>(hs.2 b hb).trans e
  refine h _ ⟨.refl _ _,Nat.le_refl _,⟨fun b o e=>up b o (fun q=>by have:=f.bs a ha;rw [←q,e]at this;cases this) (R.base b o e),R.fresh,R.inj,R.lt,fun l' o e=>(R.obj l' o e).heap fun l'' hm ob e'=>up _ _ (fun q=>no ⟨l'',qdx e R.noi hm,q⟩) e',R.noi⟩,
   fun b o e _ hb=>up b o (fun q=>hb (q ▸ ha)) e,fun b o e=>?_,fun _ h=> .inl h,rfl,rfl⟩ hf
  by_cases q:b=a
  ·subst q;exact hth
  ·exact⟨o,up b o q e⟩
 refine qac f.ns fun m hm km=>?_
 rcases hx with hx|hx
 ·refine wpAny_storeName_local hx hm (fun h' hn' hs'=>?_) (by rw [hk];rfl)
  have up: ∀b o,b≠env.locals→s.heap.get? b=some o→h'.get? b=some o:=fun b o hb e=>(hs'.2 b hb).trans e
  refine fin env.locals h' _ (.inl rfl) hs' (let⟨o,_,_,ho,_⟩:=hn';⟨o,ho⟩) ⟨⟨_,hn',fun z u e kz=>?_⟩,fun z u e kz=>?_,fun z kz=>?_,fun z c hc=>?_,f.no,f.bs,f.ap,f.lc⟩
  ·by_cases q:z=x
   ·subst q;rw [Locs.at]at e;cases e;exact⟨y,if_pos rfl,hv⟩
   ·rw [Locs.ne q]at e;refine qac (km z u e kz) fun u' a b=>?_
    exact⟨u',(if_neg (fun q'=>q (qbq q'))).trans a,b⟩
  ·have q:z≠x:=fun q=>by subst q;rw [hx]at kz;rcases kz with h|h<;>cases h
   rw [Locs.ne q]at e;refine qfj (f.cel z u e kz) fun c u' a z10_3 b=>?_;refine qac z10_3 fun o ho hd=>?_
   exact⟨c,u',a,⟨o,up c o (f.lc _ _ a) ho,hd⟩,b⟩
  ·obtain⟨c,u',a,o,ho,hd⟩:=f.all z kz
   exact⟨c,u',a,o,up c o (f.lc _ _ a) ho,hd⟩
  ·refine qcv (f.there z c hc) fun u' o ho hd=>?_
   exact⟨u',o,up c o (f.lc _ _ hc) ho,hd⟩
 ·refine qcv (f.all _ hx) fun c y₀ hc hcell=>?_
  refine wpAny_storeName_cell hk hx hc hcell fun h' hn' hs'=>?_
  have up: ∀b o,b≠c→s.heap.get? b=some o→h'.get? b=some o:=fun b o hb e=>(hs'.2 b hb).trans e
  refine fin c h' s.toks (.inr ⟨_,hc⟩) hs' (let⟨o,ho,_⟩:=hn';⟨o,ho⟩) ⟨⟨m,hm.at' fun o e=>up _ o (fun q=>f.lc _ _ hc q.symm) e,fun z u e kz=>?_⟩,fun z u e kz=>?_,fun z kz=>?_,fun z c' hc'=>?_,f.no,f.bs,f.ap,f.lc⟩
  ·have q:z≠x:=fun q=>by subst q;rw [hx]at kz;cases kz
   rw [Locs.ne q]at e;exact km z u e kz
  ·by_cases q:z=x
   ·subst q;rw [Locs.at]at e;cases e;exact⟨c,y,hc,hn',hv⟩
   ·rw [Locs.ne q]at e;refine qfj (f.cel z u e kz) fun c' u' a z14_3 b=>?_;refine qac z14_3 fun o ho hd=>?_
    exact⟨c',u',a,⟨o,up c' o (fun q'=>q (qbq (f.ap _ _ _ a (q' ▸ hc)))) ho,hd⟩,b⟩
  ·by_cases q:z=Str.ofString x
   ·subst q;exact⟨c,_,hc,hn'⟩
   ·obtain⟨c',u',a,o,ho,hd⟩:=f.all z kz
    exact⟨c',u',a,o,up c' o (fun q'=>q (f.ap _ _ _ a (q' ▸ hc))) ho,hd⟩
  ·by_cases q:c'=c
   ·subst q;exact⟨_,hn'⟩
   ·refine qcv (f.there z c' hc') fun u' o ho hd=>?_
    exact⟨u',o,up c' o q ho,hd⟩
end
end Mine
end
noncomputable section
namespace Mine
open PySem PySem.Calls PyProof.Rows PySem.W
section
variable {w:World} {S:qc5 prog w} {A:Around} {ρ:Rho} {σ σ':St} {s:Shared}
noncomputable abbrev nE:Value→Shared→Prop:=fun _ _=>False
noncomputable def PV (S:qc5 prog w) (ρ:Rho) (σ:St) (s:Shared) (v:V) (σ':St) (y:Value) (s':Shared):Prop:= ∃ρ',Post S noF ρ σ s ρ' σ' s'∧VR ρ' σ'.next v y
theorem PV.here {v:V} {y:Value} (R:Rel S ρ σ s) (h:VR ρ σ.next v y):PV S ρ σ s v σ y s:=⟨ρ,.refl R,h⟩
theorem PV.tok {v:V} {y:Value} {tk:Nat} (R:Rel S ρ σ s) (h:VR ρ σ.next v y):PV S ρ σ s v σ y {s with toks:=tk}:=⟨ρ,.toks R,h⟩
theorem PV.int {i:Int} (R:Rel S ρ σ s):PV S ρ σ s (.int i) σ (.int i s.toks) {s with toks:=s.toks+1}:= .tok R ⟨_,rfl⟩
theorem PV.keep {v:V} {y:Value} {h':Heap} {tk:Nat} (R:Rel S ρ σ s) (hk: ∀b o,s.heap.get? b=some o→h'.get? b=some o) (h:VR ρ σ.next v y):PV S ρ σ s v σ y {s with heap:=h',toks:=tk}:=⟨ρ,.keeps R hk,h⟩
theorem Rel.list {n:Nat} {vs:List V} (R:Rel S ρ σ s) (e:σ.heap (.list n)=some (.list vs)): ∃its,s.heap.PlainList (ρ (.list n)) its.toArray∧All2 (VR ρ σ.next) vs its∧vs.length≤200000:=R.obj _ _ e
theorem qui {its:List Value} {vs:List V} (h:All2 (VR ρ σ.next) vs its) (hl:vs.length≤200000):its.toArray.size≤sizeLine:=by
 rw [List.size_toArray,←h.length];have:sizeLine=16777216:=by decide+kernel
 (with_reducible exact Nat.le_trans ‹_› (by decide))
theorem PV.newList {vs:List V} {its:List Value} (R:Rel S ρ σ s) (h:All2 (VR ρ σ.next) vs its) (hl:vs.length≤200000):
  PV S ρ σ s (.ref (.list σ.next)) (σ.new .list (.list vs)) (.ref s.heap.objs.size) {s with heap:=s.heap.push {cls:= .type "list",data:= .seq its.toArray}}:=by
 have ag:=qbz (ρ:=ρ) (l:= .list σ.next) (a:=s.heap.objs.size) (k:=σ.next) rfl
 refine⟨qgs ρ (.list σ.next) s.heap.objs.size,Post.alloc1 (l:= .list σ.next) R rfl rfl (by rintro ⟨_,_,h⟩;cases h) (fun b o e=>Heap.get?_push_of_some _ e) ?_ ?_,?_⟩
 ·cases e:s.heap.get? s.heap.objs.size with
  |none=>rfl
  |some o=>exact absurd (Heap.lt_size e) (Nat.lt_irrefl _)
 ·refine⟨its,⟨0,?_⟩,h.mono fun _ _ y=>y.mono ag (Nat.le_succ _),hl⟩
  rw [qa2];exact Heap.get?_push_size _ rfl
 ·exact⟨Nat.lt_succ_self _,by rw [qa2]⟩
theorem PV.newTup {vs:List V} {its:List Value} (R:Rel S ρ σ s) (h:All2 (VR ρ σ.next) vs its):
  PV S ρ σ s (.ref (.tup σ.next)) (σ.new .tup (.tup vs)) (.ref s.heap.objs.size) {s with heap:=s.heap.push {cls:= .type "tuple",data:= .seq its.toArray}}:=by
 have ag:=qbz (ρ:=ρ) (l:= .tup σ.next) (a:=s.heap.objs.size) (k:=σ.next) rfl
 refine⟨qgs ρ (.tup σ.next) s.heap.objs.size,Post.alloc1 (l:= .tup σ.next) R rfl rfl (by rintro ⟨_,_,h⟩;cases h) (fun b o e=>Heap.get?_push_of_some _ e) ?_ ?_,?_⟩
 ·cases e:s.heap.get? s.heap.objs.size with
  |none=>rfl
  |some o=>exact absurd (Heap.lt_size e) (Nat.lt_irrefl _)
 ·refine⟨its,0,?_,h.mono fun _ _ y=>y.mono ag (Nat.le_succ _)⟩
  rw [qa2];exact Heap.get?_push_size _ rfl
 ·exact⟨Nat.lt_succ_self _,by rw [qa2]⟩
noncomputable def opT:Op→Operator
 | .add=> .Add| .sub=> .Sub| .mul=> .Mult| .fdiv=> .FloorDiv| .mod=> .Mod| .pow=> .Pow
theorem qpd {op:Op} {o:Operator} (ho:cOp o=some op):o=opT op:=by cases o<;>cases ho<;>rfl
theorem qit {n:Nat} {K:Int→Int→Option (V×St)} {a b:V} {x y:Value} {r:V×St} {Go:Value→Value→Prop} (ha:VR ρ n a x) (hb:VR ρ n b y) (h:onI a (fun i=>onI b fun j=>K i j)=some r)
  (go: ∀i j t u,K i j=some r→Go (.int i t) (.int j u)):Go x y:=by
 refine qhd h fun i ea h=>qhd h fun j eb h=>?_
 subst ea eb;refine qaj ha fun t ex=>qaj hb fun u ey=>?_
 subst ex ey;exact go i j t u h
theorem qyy {op:Op} {a b v:V} {x y:Value} (R:Rel S ρ σ s) (ha:VR ρ σ.next a x) (hb:VR ρ σ.next b y) (h:qe8 op a b σ=some (v,σ')):
  wpAny (model prog w) A (binaryOp (opT op) x y) (PV S ρ σ s v σ') nE s:=by
 cases op with
 |add=>
  cases a with
  |int x=>refine qit (a:= .int x) (K:=fun i j=>some (.int (i+j),σ)) (Go:=fun x y=>wpAny (model prog w) A (binaryOp .Add x y) (PV S ρ σ s v σ') nE s) ha hb h fun i j t u h=>?_;exact qcs h (P.add_int (.int R))
  |bytes x=>
   refine qpb h fun y eb h=>qdu h fun hl h=>?_
   refine qcs h ?_
   clear h;subst eb;refine qaj ha fun t e=>qaj hb fun u e'=>?_
   subst e e';exact bytes_add_K (by simp;exact Nat.le_trans hl (by decide)) rfl fun t' k=> .tok R ⟨_,rfl⟩
  |ref l=>
   refine qjq h fun m xs ea e1 h'=>qjq h' fun n ys eb e2 h=>qdu h fun hl h=>?_
   refine qcs h ?_
   clear h h';subst eb;cases ea
   refine qao (R.list e1) fun i1 z1 r1 l1=>qaj z1 fun n1 p1=>?_
   refine qao (R.list e2) fun i2 z2 r2 l2=>qaj z2 fun n2 p2=>?_
   rw [ha.2,hb.2];refine P.add_list p1 p2 ?_ ?_
   ·have:=PV.newList R (r1.append r2) (by rw [List.length_append];exact hl)
    simpa using this
   ·rw [List.size_toArray,List.size_toArray,←r1.length,←r2.length];have:sizeLine=16777216:=by decide+kernel
    exact Nat.le_trans hl (by decide)
  |_=>exact qa3 h
 |sub=>refine qit (Go:=fun x y=>wpAny (model prog w) A (binaryOp .Sub x y) (PV S ρ σ s v σ') nE s) ha hb h fun i j t u h=>?_;exact qcs h (P.sub_int (.int R))
 |mul=>refine qit (Go:=fun x y=>wpAny (model prog w) A (binaryOp .Mult x y) (PV S ρ σ s v σ') nE s) ha hb h fun i j t u h=>qdu h fun hh h=>?_;exact qcs h (P.mul_int (.int R) (IntMulOk.of_right (intBits_le_64 (by lia) (by lia))))
 |fdiv=>refine qit (Go:=fun x y=>wpAny (model prog w) A (binaryOp .FloorDiv x y) (PV S ρ σ s v σ') nE s) ha hb h fun i j t u h=>qdu h fun hh h=>?_;exact qcs h (floordiv_int hh.1 (.int R) (Or.inl (PyProof.noPylong_small hh.2)))
 |mod=>refine qit (Go:=fun x y=>wpAny (model prog w) A (binaryOp .Mod x y) (PV S ρ σ s v σ') nE s) ha hb h fun i j t u h=>qdu h fun hh h=>?_;exact qcs h (mod_int' hh (.int R))
 |pow=>refine qit (Go:=fun x y=>wpAny (model prog w) A (binaryOp .Pow x y) (PV S ρ σ s v σ') nE s) ha hb h fun i j t u h=>qdu h fun hh h=>?_;exact qcs h (pow_int_small hh.1 (by lia) hh.2.2 (.int R))
end
end Mine
end
noncomputable section
namespace Mine
open PySem PySem.Calls PyProof.Rows PySem.W
section
variable {w:World} {S:qc5 prog w} {A:Around} {ρ:Rho} {σ σ':St} {s:Shared}
noncomputable def cmpT:Cmp→CmpOp
 | .eq=> .Eq| .ne=> .NotEq| .lt=> .Lt| .le=> .LtE| .gt=> .Gt| .ge=> .GtE| .is=> .Is| .isnt=> .IsNot| .isIn=> .In| .notIn=> .NotIn
noncomputable abbrev DR (ρ:Rho) (k:Nat) (p:Int×V) (q:Int×Value):Prop:=p.1=q.1∧VR ρ k p.2 q.2
theorem Rel.dictI {n:Nat} {kvs:List (Int×V)} (R:Rel S ρ σ s) (e:σ.heap (.dict n)=some (.dictI kvs)): ∃ps,s.heap.DictOf (intKind prog w) (ρ (.dict n)) ps∧All2 (DR ρ σ.next) kvs ps∧kvs.length≤200000:=R.obj _ _ e
theorem Rel.dictS {n:Nat} {kvs:List (String×V)} (R:Rel S ρ σ s) (e:σ.heap (.dict n)=some (.dictS kvs)): ∃ps,s.heap.DictOf (strKind prog w) (ρ (.dict n)) ps∧All2 (fun(p:String×V) (q:Str×Value)=>q.1=Str.ofString p.1∧VR ρ σ.next p.2 q.2) kvs ps:=R.obj _ _ e
theorem Rel.notSys {l:Loc} (R:Rel S ρ σ s) (e:qdw σ l) (h0:l≠ .list 0):(ρ l==sysModules)=false:=by
 have a:=R.fresh l e h0
 have b:=S.sysM
 exact beq_eq_false_iff_ne.mpr fun q=>by rw [←q,a]at b;cases b
theorem qkt {k:Nat} {kvs:List (Int×V)} {ps:List (Int×Value)} (h:All2 (DR ρ k) kvs ps) (i:Int):match qa8 i kvs with|some v=> ∃y,valueAt ps i=some y∧VR ρ k v y|none=>valueAt ps i=none:=by
 induction h with
 |nil=>rfl
 | @cons x y xs ys r _ ih=>
  unfold qa8 valueAt at*;rw [List.find?_cons,List.find?_cons,←r.1];by_cases q:x.1=i
  ·simp only [q,decide_true];exact⟨_,rfl,r.2⟩
  ·simp only [q,decide_false];exact ih
theorem qyz {k:Nat} {kvs:List (Int×V)} {ps:List (Int×Value)} (h:All2 (DR ρ k) kvs ps) (i:Int):ps.any (fun kv=>kv.1=i)=kvs.any (fun kv=>kv.1=i):=by
 induction h with
 |nil=>rfl
 |cons r _ ih=>rw [List.any_cons,List.any_cons,ih,r.1]
theorem qy0 {k:Nat} {kvs:List (Int×V)} {ps:List (Int×Value)} {i:Int} {v:V} {y:Value} (h:All2 (DR ρ k) kvs ps) (hv:VR ρ k v y):All2 (DR ρ k) (qbd i v kvs) (stored ps i y):=by
 unfold qbd stored;rw [qyz h];split
 ·rename_i q;clear q
  induction h with
  |nil=>exact .nil
  | @cons x y xs ys r _ ih=>
   rw [List.map_cons,List.map_cons];refine .cons ?_ ih
   rw [←r.1];split
   ·exact⟨rfl,hv⟩
   ·exact r
 ·exact h.append (.one ⟨rfl,hv⟩)
theorem qte {k:Nat} {kvs:List (Int×V)} {ps:List (Int×Value)} {i:Int} (h:All2 (DR ρ k) kvs ps):All2 (DR ρ k) (qds i kvs) (without ps i):=by
 unfold qds without
 induction h with
 |nil=>exact .nil
 | @cons x y xs ys r _ ih=>
  rw [List.filter_cons,List.filter_cons,←r.1];split
  ·exact .cons r ih
  ·exact ih
theorem qku {i:Int} {v:V} {kvs:List (Int×V)}:(qbd i v kvs).length≤kvs.length+1:=by
 unfold qbd;split<;>simp
theorem qgt {i:Int} {kvs:List (Int×V)}:(qds i kvs).length≤kvs.length:=List.length_filter_le ..
theorem qgu {i:Int} {t:Tok}:(intKind prog w).is i (.int i t)=true:=by simp [intKind,Value.isInt]
theorem qd5 {vs:List V} {is:List Int} (h:ints? vs=some is):vs=is.map .int:=by
 induction vs generalizing is with
 |nil=>refine qct h ?_;rfl
 |cons v r ih=>
  cases v<;>simp [ints?]at h
  refine qac h fun a b e0_2=>?_;subst e0_2
  rw [ih b];rfl
theorem qiu {vs:List V} {is:List (List UInt8)} (h:bytess? vs=some is):vs=is.map .bytes:=by
 induction vs generalizing is with
 |nil=>refine qct h ?_;rfl
 |cons v r ih=>
  cases v<;>simp [bytess?]at h
  refine qac h fun a b e1_2=>?_;subst e1_2
  rw [ih b];rfl
theorem All2.ints {k:Nat} {is:List Int} {ys:List Value} (h:All2 (VR ρ k) (is.map .int) ys):All2 (fun i y=> ∃t,y= .int i t) is ys:=h.of_map
theorem All2.bytess {k:Nat} {is:List (List UInt8)} {ys:List Value} (h:All2 (VR ρ k) (is.map .bytes) ys):All2 (fun i y=> ∃t,y= .bytes i.toArray t) is ys:=h.of_map
noncomputable def isI (i:Int):Value→Bool| .int j _=>j==i|_=>false
theorem qtf {i:Int} {t:Tok} {is:List Int} {ys:List Value} (h:All2 (fun i y=> ∃t,y= .int i t) is ys): ∀y∈ys,MeetsSeq.EqGives y (.int i t) (isI i y):=by
 induction h with
 |nil=>intro y h;cases h
 |cons r _ ih=>
  intro y h;rcases List.mem_cons.mp h with rfl|h
  ·refine qaj r fun t' e2_1=>?_;subst e2_1;exact MeetsSeq.EqGives.int _ _ _ _
  ·exact ih y h
theorem qjs {i:Int} {is:List Int} {ys:List Value} (h:All2 (fun i y=> ∃t,y= .int i t) is ys):ys.any (isI i)=decide (i∈is):=by
 induction h with
 |nil=>rfl
 | @cons x y xs ys r _ ih=>
  refine qaj r fun t' e3_1=>?_;subst e3_1
  rw [List.any_cons,ih];by_cases q:x=i
  ·subst q;simp [isI]
  ·have q': ¬i=x:=fun e=>q e.symm
   simp [isI,q,q']
theorem qnv {B:Around} {s:Shared} {is js:List Int} {xs ys:List Value} (h1:All2 (fun i y=> ∃t,y= .int i t) is xs) (h2:All2 (fun i y=> ∃t,y= .int i t) js ys) (j:Nat) (a:j<xs.toArray.size) (b:j<ys.toArray.size):
  SeqAt.EqAt B s xs.toArray[j] ys.toArray[j] (is.getD j 0==js.getD j 0):=by
 obtain⟨i1,e1,t1,r1⟩:=h1.getR (i:=j) (y:=xs.toArray[j]) (by simp at a ⊢)
 obtain⟨i2,e2,t2,r2⟩:=h2.getR (i:=j) (y:=ys.toArray[j]) (by simp at b ⊢)
 rw [r1,r2,List.getD_eq_getElem?_getD,List.getD_eq_getElem?_getD,e1,e2];exact(MeetsSeq.EqGives.int _ _ _ _).at _ _
theorem qwc {α:Type} [BEq α] [LawfulBEq α] [DecidableEq α] (a b:α):(a==b)=decide (a=b):=by by_cases h:a=b<;>simp [h]
theorem qkv (a b:List UInt8) (t u:Tok):MeetsSeq.EqGives (.bytes a.toArray t) (.bytes b.toArray u) (a==b):=by
 intro prog w A E s Q h;exact eqBool_bytes (by rw [←qwc];exact h)
theorem qmb {B:Around} {s:Shared} {is js:List (List UInt8)} {xs ys:List Value} (h1:All2 (fun i y=> ∃t,y= .bytes i.toArray t) is xs) (h2:All2 (fun i y=> ∃t,y= .bytes i.toArray t) js ys) (j:Nat) (a:j<xs.toArray.size) (b:j<ys.toArray.size):
  SeqAt.EqAt B s xs.toArray[j] ys.toArray[j] (is.getD j []==js.getD j []):=by
 obtain⟨i1,e1,t1,r1⟩:=h1.getR (i:=j) (y:=xs.toArray[j]) (by simp at a ⊢)
 obtain⟨i2,e2,t2,r2⟩:=h2.getR (i:=j) (y:=ys.toArray[j]) (by simp at b ⊢)
 rw [r1,r2,List.getD_eq_getElem?_getD,List.getD_eq_getElem?_getD,e1,e2];exact(qkv _ _ _ _).at _ _
theorem qjt {α:Type} [BEq α] [LawfulBEq α] [DecidableEq α] (d:α): ∀{is js:List α},is.length=js.length→((List.range is.length).all fun j=>is.getD j d==js.getD j d)=decide (is=js)
 | [],[],_=>rfl
 |x::is,y::js,h=>by
  have ih:=qjt d (is:=is) (js:=js) (by simpa using h)
  rw [List.length_cons,List.range_succ_eq_map,List.all_cons,List.all_map];have:((List.range is.length).all ((fun j=>(x::is).getD j d==(y::js).getD j d) ∘ Nat.succ))=((List.range is.length).all fun j=>is.getD j d==js.getD j d):=rfl
  rw [this,ih];by_cases q:x=y
  ·subst q;simp
  ·simp [q]
theorem PV.b {b b':Bool} (R:Rel S ρ σ s) (h:b'=b):PV S ρ σ s (.bool b) σ (.bool b') s:= .here R (by rw [h];rfl)
theorem PV.bt {b b':Bool} {tk:Nat} (R:Rel S ρ σ s) (h:b'=b):PV S ρ σ s (.bool b) σ (.bool b') {s with toks:=tk}:= .tok R (by rw [h];rfl)
theorem qtg {xs ys:List V} {r:Bool} {G:Prop} (h:qyi xs ys=some r) (k1: ∀is js:List Int,xs=is.map .int→ys=js.map .int→decide (is=js)=r→G)
  (k2: ∀is js:List (List UInt8),xs=is.map .bytes→ys=js.map .bytes→decide (is=js)=r→G):G:=by
 have two:(match bytess? xs,bytess? ys with|some is,some js=>some (decide (is=js))|_,_=>none)=some r→G:=fun h=>by
  cases q1:bytess? xs with
  |none=>rw [q1]at h;exact qa3 h
  |some is=>
   cases q2:bytess? ys with
   |none=>rw [q1,q2]at h;exact qa3 h
   |some js=>rw [q1,q2]at h;exact k2 is js (qiu q1) (qiu q2) (Option.some.inj h)
 unfold qyi at h;cases q1:ints? xs with
 |none=>rw [q1]at h;exact two h
 |some is=>
  cases q2:ints? ys with
  |none=>rw [q1,q2]at h;exact two h
  |some js=>rw [q1,q2]at h;exact k1 is js (qd5 q1) (qd5 q2) (Option.some.inj h)
theorem qpe {m n:Nat} {xs ys:List V} {r:Bool} {B:Around} (R:Rel S ρ σ s) (e1:σ.heap (.list m)=some (.list xs)) (e2:σ.heap (.list n)=some (.list ys)) (h:qyi xs ys=some r):
  ∃i1 i2,s.heap.IsList (ρ (.list m)) i1∧s.heap.IsList (ρ (.list n)) i2∧(((i1.size !=i2.size)=true∧r=false)∨(i1.size=i2.size∧ ∃e:Nat→Bool,(∀j (h1:j<i1.size) (h2:j<i2.size),SeqAt.EqAt B s i1[j] i2[j] (e j))∧(List.range i1.size).all e=r)):=by
 refine qao (R.list e1) fun i1 z8_1 r1 l1=>?_;refine qaj z8_1 fun n1 p1=>?_
 refine qao (R.list e2) fun i2 z9_1 r2 l2=>?_;refine qaj z9_1 fun n2 p2=>?_
 have sz1:i1.toArray.size=xs.length:=by rw [List.size_toArray,r1.length]
 have sz2:i2.toArray.size=ys.length:=by rw [List.size_toArray,r2.length]
 refine⟨_,_,⟨_,p1,rfl,n1,rfl⟩,⟨_,p2,rfl,n2,rfl⟩,?_⟩
 clear e1 e2 p1 p2 z8_1 z9_1 l1 l2;by_cases hlen:xs.length=ys.length
 ·refine .inr ⟨by rw [sz1,sz2,hlen],?_⟩
  refine qtg h (fun is js q1 q2 q3=>?_) (fun is js q1 q2 q3=>?_)
  ·subst q1 q2 q3;refine⟨_,qnv r1.ints r2.ints,?_⟩
   rw [sz1,List.length_map];exact qjt 0 (by simpa using hlen)
  ·subst q1 q2 q3;refine⟨_,qmb r1.bytess r2.bytess,?_⟩
   rw [sz1,List.length_map];exact qjt [] (by simpa using hlen)
 ·refine .inl ⟨by rw [sz1,sz2];simpa using hlen,?_⟩
  refine qtg h (fun is js q1 q2 q3=>?_) (fun is js q1 q2 q3=>?_)<;>(subst q1 q2 q3;rw [decide_eq_false_iff_not];rintro rfl;exact hlen rfl)
theorem qy1 {a b:V} {r:Bool} {x y:Value} (R:Rel S ρ σ s) (ha:VR ρ σ.next a x) (hb:VR ρ σ.next b y) (hu:A.units<cLine) (h:eqV a b σ=some r):
  wpAny (model prog w) A (compareOp .Eq x y) (PV S ρ σ s (.bool r) σ) nE s∧wpAny (model prog w) A (compareOp .NotEq x y) (PV S ρ σ s (.bool !r) σ) nE s:=by
 cases a with
 |int i=>
  refine qhd h fun j eb h'=>?_;clear h;subst eb
  refine qaj ha fun t e=>?_;subst e;refine qaj hb fun u e=>?_;subst e
  refine qct h' ?_
  exact⟨P.eq_int (.b R (qwc _ _)),P.ne_int (.b R (by rw [bne,qwc]))⟩
 |bytes i=>
  refine qpb h fun j eb h'=>?_;clear h;subst eb
  refine qaj ha fun t e=>?_;subst e;refine qaj hb fun u e=>?_;subst e
  refine qct h' ?_
  exact⟨eq_bytes (.b R (qwc _ _)),ne_bytes (.b R (by rw [bne,qwc]))⟩
 |none=>cases b with
  |none=>
   cases ha;cases hb;refine qct h ?_
   exact⟨SeqAt.RcAt.none_none prog w _ _ (.b R rfl),SeqAt.RcNeAt.none_none prog w _ _ (.b R rfl)⟩
  |_=>exact qa3 h
 |ref l=>
  refine qjq h fun m xs ea e1 h'=>?_;clear h;cases ea
  refine qjq h' fun n ys eb e2 h=>?_;clear h';subst eb
  refine qa1 ha fun _ e=>?_;subst e;refine qa1 hb fun _ e=>?_;subst e
  refine qfj (qpe (B:=A.in1) R e1 e2 h) fun i1 i2 h1 h2 z16_4=>?_;rcases z16_4 with⟨hz,rfl⟩|⟨hz,e,he,hr⟩
  ·exact⟨SeqAt.eq_list_lengthsAt h1 h2 hz hu (.b R rfl),SeqAt.RcNeAt.lists_lengths h1 h2 hz hu prog w _ _ (.b R rfl)⟩
  ·exact⟨SeqAt.eq_listAt h1 h2 hz hu he (.b R hr),SeqAt.RcNeAt.lists h1 h2 hz hu he prog w _ _ (.b R (by rw [hr]))⟩
 |_=>exact qa3 h
theorem qmc {c:Cls} {n:Nat} {o:MObj} (R:Rel S ρ σ s) (e:σ.heap (.inst c n)=some o) {GG:Prop} (kk: ∀fs,o= .inst fs→s.heap.get? (ρ (.inst c n))=some (instObj (S.cA c) (ρ (.idict c n)))→GG):GG:=by
 have x:=R.obj _ _ e
 clear e;cases o with
 |inst fs=>exact kk fs rfl x.1
 |_=>exact False.elim x
theorem qy2 {a b:V} {r:Bool} {x y:Value} (R:Rel S ρ σ s) (ha:VR ρ σ.next a x) (hb:VR ρ σ.next b y) (h:isV a b σ=some r):
  wpAny (model prog w) A (compareOp .Is x y) (PV S ρ σ s (.bool r) σ) nE s∧wpAny (model prog w) A (compareOp .IsNot x y) (PV S ρ σ s (.bool !r) σ) nE s:=by
 cases a with
 |none=>
  cases ha
  cases b with
  |none=>cases hb;refine qct h ?_;exact⟨wpAny_is_plain (a:= .none) (b:= .none) rfl (.b R rfl),wpAny_isNot_plain (a:= .none) (b:= .none) rfl (.b R rfl)⟩
  |ref l=>refine qa1 hb fun _ e=>?_;subst e;refine qct h ?_;exact⟨wpAny_is_plain rfl (.b R rfl),wpAny_isNot_plain rfl (.b R rfl)⟩
  |_=>exact qa3 h
 |int i=>
  refine qaj ha fun _ e=>?_;subst e
  cases b with
  |none=>cases hb;refine qct h ?_;exact⟨wpAny_is_plain rfl (.b R rfl),wpAny_isNot_plain rfl (.b R rfl)⟩
  |_=>exact qa3 h
 |ref l=>
  refine qa1 ha fun _ e=>?_;subst e
  cases b with
  |none=>cases hb;refine qct h ?_;exact⟨wpAny_is_plain rfl (.b R rfl),wpAny_isNot_plain rfl (.b R rfl)⟩
  |ref l'=>
   refine qa1 hb fun _ e=>?_;subst e
   cases l with
   |inst c n=>cases l' with
    |inst c' n'=>
     refine qdu h fun hc h=>?_;refine qct h ?_
     by_cases q:(Loc.inst c n)= .inst c' n'
     ·rw [q];exact⟨wpAny_is_ref_self (.b R (by simp)),wpAny_isNot_ref_self (.b R (by simp))⟩
     ·have c1:qdw σ (.inst c n):=hc.1
      have c2:qdw σ (.inst c' n'):=hc.2
      have hne:ρ (.inst c n)≠ρ (.inst c' n'):=fun e=>q (R.inj _ _ c1 c2 e)
      refine qaj (Option.isSome_iff_exists.mp c1) fun o1 e1=>?_
      refine qaj (Option.isSome_iff_exists.mp c2) fun o2 e2=>?_
      refine qmc R e1 fun _ _ g1=>?_
      refine qmc R e2 fun _ _ g2=>?_
      exact⟨wpAny_is_ref_other hne g1 g2 (by intro z;cases z) (.b R (by simp [q])),wpAny_isNot_ref_other hne g1 g2 (by intro z;cases z) (.b R (by simp [q]))⟩
    |_=>exact qa3 h
   |_=>exact qa3 h
  |_=>exact qa3 h
 |_=>exact qa3 h
end
end Mine
end
noncomputable section
namespace Mine
open PySem PySem.Calls PyProof.Rows PySem.W
section
variable {w:World} {S:qc5 prog w} {A:Around} {ρ:Rho} {σ σ':St} {s:Shared}
theorem Rel.tup {n:Nat} {vs:List V} (R:Rel S ρ σ s) (e:σ.heap (.tup n)=some (.tup vs)): ∃its m,s.heap.get? (ρ (.tup n))=some {cls:= .type "tuple",data:= .seq its.toArray m}∧All2 (VR ρ σ.next) vs its:=R.obj _ _ e
theorem qy3 {a b:V} {r:Bool} {x y:Value} (R:Rel S ρ σ s) (ha:VR ρ σ.next a x) (hb:VR ρ σ.next b y) (h:inV a b σ=some r):
  wpAny (model prog w) A (compareOp .In x y) (PV S ρ σ s (.bool r) σ) nE s∧wpAny (model prog w) A (compareOp .NotIn x y) (PV S ρ σ s (.bool !r) σ) nE s:=by
 refine qhd h fun i ea h'=>?_;clear h;subst ea
 refine qaj ha fun t e=>?_;subst e
 cases b with
 |ref l=>
  refine qa1 hb fun _ e=>?_;subst e
  replace h':inR i l σ=some r:=h'
  cases l with
  |list n=>
   refine qyt h' fun xs e1 h=>?_;clear h'
   cases q:ints? xs with
   |none=>rw [q]at h;exact qa3 h
   |some is=>
    rw [q]at h;refine qct h ?_;refine qao (R.list e1) fun i1 z2_1 r1 l1=>?_;refine qaj z2_1 fun n1 p1=>?_
    have q:=qd5 q;subst q
    have he: ∀y,y∈i1.toArray→MeetsSeq.EqGives y (.int i t) (isI i y):=fun y hy=>qtf r1.ints y (by simpa using hy)
    have hl:s.heap.IsList _ i1.toArray:=⟨_,p1,rfl,n1,rfl⟩
    exact⟨SeqInW.in_listW _ he hl (.b R (by rw [List.any_toArray,qjs r1.ints])),SeqInW.notIn_listW _ he hl (.b R (by rw [List.any_toArray,qjs r1.ints]))⟩
  |tup n=>
   refine qyu h' fun xs e1 h=>?_;clear h'
   cases q:ints? xs with
   |none=>rw [q]at h;exact qa3 h
   |some is=>
    rw [q]at h;refine qct h ?_;refine qcv (R.tup e1) fun i1 n1 p1 r1=>?_
    have q:=qd5 q;subst q
    have he: ∀y,y∈i1.toArray→MeetsSeq.EqGives y (.int i t) (isI i y):=fun y hy=>qtf r1.ints y (by simpa using hy)
    exact⟨SeqRoads2.in_tuple _ he p1 (.b R (by rw [List.any_toArray,qjs r1.ints])),SeqRoads2.notIn_tuple _ he p1 (.b R (by rw [List.any_toArray,qjs r1.ints]))⟩
  |dict n=>
   refine qyv h' fun kvs e1 h=>?_;clear h';refine qct h ?_
   refine qao (R.dictI e1) fun ps d1 r1 l1=>?_
   have hd:=R.notSys (l:= .dict n) (by simp [qdw,e1]) (by intro z;cases z)
   have hg:(valueAt ps i).isSome=(qa8 i kvs).isSome:=by
    have g:=qkt r1 i
    cases q:qa8 i kvs with
    |none=>rw [q]at g;rw [show valueAt ps i=none from g];rfl
    |some v=>rw [q]at g;refine qac g fun y a _=>?_;rw [a];rfl
   exact⟨wpAny_in_of qgu hd d1.mapOf (.bt R (by rw [hg])),wpAny_notIn_of qgu hd d1.mapOf (.bt R (by rw [hg]))⟩
  |_=>exact qa3 h'
 |_=>exact qa3 h'
theorem qth {x:Str} {t:Tok}:(PySem.strKind prog w).is x (.str x t)=true:=by simp [PySem.strKind,Value.isStrOf]
theorem qpf {value slice:PySem.Expr} {pos:Pos} {o i:Value} {Q:Value→Shared→Prop} {E:Value→Shared→Prop} (h:SubscriptOn (model prog w) A o i Q E s):
  wpAny (model prog w) A (do standAt pos;let r ←subscripted slice (←getitemInPython o) o i;letTemporaryGo value o r;pure r) Q E s:=by
 refine qfj h fun T id hl hT hg=>?_
 refine wpAny_bind (wpAny_standAt (wpAny_bind ?_))
 rw [getitemInPython_of_ne hT.not_modules];refine wpAny_bind (wpAny_specialOf hT hl (wpAny_pure ?_))
 have fin: ∀ops,wpAny (model prog w) A (operate ops (getItem o i)) (fun r s₃=>wpAny (model prog w) A (letTemporaryGo value o r>>=fun _=>pure r) Q E s₃) E s:=fun ops=>
  wpAny_operating (wpAny_mono hg (fun r s₃ h₃=>wpAny_bind (wpAny_letTemporaryGo (wpAny_pure h₃))) fun _ _ x=>x)
 refine wpAny_bind ?_
 unfold subscripted;split
 ·exact fin _
 ·rename_i h;cases h
 ·exact fin _
theorem qpg {a b u:V} {x y:Value} (R:Rel S ρ σ s) (ha:VR ρ σ.next a x) (hb:VR ρ σ.next b y) (h:qgc a b σ=some u):
  SubscriptOn (model prog w) A x y (PV S ρ σ s u σ) nE s:=by
 cases a with
 |ref l=>
  refine qa1 ha fun _ e=>?_;subst e
  replace h:qyj l b σ=some u:=h
  cases l with
  |list n=>
   refine qhd h fun k eb h'=>?_;clear h;subst eb
   refine qaj hb fun t e=>?_;subst e
   refine qyt h' fun xs e1 h=>?_;clear h'
   refine qdu h fun h0 h=>?_
   refine qao (R.list e1) fun i1 z13_1 r1 l1=>?_;refine qaj z13_1 fun n1 p1=>?_
   refine qac (r1.get h) fun v hv hr=>?_
   have hl:s.heap.IsList _ i1.toArray:=⟨_,p1,rfl,n1,rfl⟩
   have hlt:k.toNat<xs.length:=(List.getElem?_eq_some_iff.mp h).1
   exact⟨"list",_,slot_list_getitem.lookup,hl.typeIs,wpAny_getItem_list hl h0 (by lia) (by simpa using hv) (.here R hr)⟩
  |tup n=>
   refine qhd h fun k eb h'=>?_;clear h;subst eb
   refine qaj hb fun t e=>?_;subst e
   refine qyu h' fun xs e1 h=>?_;clear h'
   refine qdu h fun h0 h=>?_
   refine qcv (R.tup e1) fun i1 n1 p1 r1=>?_
   refine qac (r1.get h) fun v hv hr=>?_
   have hlt:k.toNat<xs.length:=(List.getElem?_eq_some_iff.mp h).1
   refine⟨"tuple",_,F.slot_tuple_getitem.lookup,⟨_,p1,rfl⟩,P.getItem_tuple p1 (by lia) (by lia) (seqIndex_of h0.1 ?_) (by simpa using hv) (.here R hr)⟩
   rw [List.size_toArray,←r1.length];lia
  |dict n=>cases b with
   |int k=>
    refine qaj hb fun t e=>?_;subst e
    refine qyv h fun kvs e1 h'=>?_;clear h
    refine qao (R.dictI e1) fun ps d1 r1 l1=>?_
    have g:=qkt r1 k
    rw [h']at g;refine qac g fun v hv hr=>?_
    exact⟨"dict",_,slot_dict_getitem.lookup,d1.mapOf.typeIs,wpAny_getItem_of qgu d1.mapOf hv (.tok R hr)⟩
   |str k=>
    refine qaj hb fun t e=>?_;subst e
    refine hS_e h fun kvs e1 h'=>?_;replace h:=h';clear h'
    refine qac (R.dictS e1) fun ps d1 r1=>?_
    obtain⟨v,hv,hr⟩: ∃v,valueAt ps (Str.ofString k)=some v∧VR ρ σ.next u v:=by
     clear d1 e1
     induction r1 with
     |nil=>cases h
     | @cons p q ps qs r _ ih=>
      rw [qeq]at h;unfold valueAt;rw [List.find?_cons,r.1];by_cases z:p.1=k
      ·rw [if_pos z]at h;cases h;simp only [z,decide_true];exact⟨_,rfl,r.2⟩
      ·rw [if_neg z]at h;have: ¬Str.ofString p.1=Str.ofString k:=fun e=>z (qbq e)
       simp only [this,decide_false];exact ih h
    refine⟨"dict",_,slot_dict_getitem.lookup,d1.mapOf.typeIs,wpAny_getItem_of (knd:=PySem.strKind prog w) (k:=Str.ofString k) qth d1.mapOf hv (.tok R hr)⟩
   |_=>exact qa3 h
  |_=>exact qa3 h
 |_=>exact qa3 h
noncomputable def PU (S:qc5 prog w) (ρ:Rho) (σ:St) (s:Shared) (σ':St) (s':Shared):Prop:= ∃ρ',Post S noF ρ σ s ρ' σ' s'
theorem Post.list {F:Addr→Prop} {n:Nat} {vs vs':List V} {its its':List Value} {m:Nat} {f:Array Value→Array Value} (R:Rel S ρ σ s) (e:σ.heap (.list n)=some (.list vs)) (hn:n≠0)
  (p:s.heap.get? (ρ (.list n))=some {cls:= .type "list",data:= .seq its.toArray m}) (hf:f its.toArray=its'.toArray) (r:All2 (VR ρ σ.next) vs' its') (hl:vs'.length≤200000):
  Post S F ρ σ s ρ (σ.set (.list n) (.list vs')) {s with heap:=s.heap.update (ρ (.list n)) (Obj.mapSeq f)}:=by
 have q:=PySem.IsL.update p f
 rw [hf]at q;exact Post.store (tk:=s.toks) R e (lc:= .list n) (by simp [qal]) (by intro z;cases z;exact hn rfl) (Heap.SameBut.update ..) ⟨its',⟨_,q⟩,r,hl⟩
theorem All2.idx {α β:Type} {P:α→β→Prop} {xs:List α} {ys:List β} (h:All2 P xs ys):ys.length=xs.length:=h.length.symm
theorem qiv {a b u:V} {x y z:Value} (R:Rel S ρ σ s) (ha:VR ρ σ.next a x) (hb:VR ρ σ.next b y) (hu:VR ρ σ.next u z) (h:qdb a b u σ=some σ'):
  wpAny (model prog w) A (setItem x y z) (fun _=>PU S ρ σ s σ') nE s:=by
 refine qhd h fun k eb h'=>?_;clear h;subst eb
 refine qaj hb fun t e=>?_;subst e
 cases a with
 |ref l=>
  refine qa1 ha fun _ e=>?_;subst e
  replace h':setR l k u σ=some σ':=h'
  cases l with
  |list n=>
   refine qyt h' fun vs e1 h=>?_;clear h'
   refine qdu h fun hc h=>?_;refine qct h ?_
   refine qao (R.list e1) fun its z28_1 r l=>?_;refine qaj z28_1 fun m p=>?_
   refine ki_setAt p hc.1 (by lia) ?_ ⟨ρ,Post.list R e1 hc.2.2 p (its':=its.set k.toNat z) (by simp) (r.set _ hu) (by simpa using l)⟩
   rw [List.size_toArray,r.idx];lia
  |dict n=>
   refine qyv h' fun kvs e1 h=>?_;clear h'
   refine qdu h fun hc h=>?_;refine qct h ?_
   refine qao (R.dictI e1) fun ps d1 r1 l1=>?_
   refine wpAny_setItem_pairs qgu d1 (fun h' hd hs=>⟨ρ,Post.store R e1 (lc:= .dict n) (by simp [qal]) (by intro z;cases z) hs ⟨_,hd,qy0 r1 hu,?_⟩⟩) (by rw [r1.idx,sizeLine_eq];exact Nat.le_trans hc (by decide))
   exact Nat.le_trans qku (by lia)
  |_=>exact qa3 h'
 |_=>exact qa3 h'
theorem qnw {a b:V} {x y:Value} (R:Rel S ρ σ s) (ha:VR ρ σ.next a x) (hb:VR ρ σ.next b y) (h:qes a b σ=some σ'):
  wpAny (model prog w) A (delItem x y) (fun _=>PU S ρ σ s σ') nE s:=by
 refine qhd h fun k eb h'=>?_;clear h;subst eb
 refine qaj hb fun t e=>?_;subst e
 cases a with
 |ref l=>
  refine qa1 ha fun _ e=>?_;subst e
  replace h':delR l k σ=some σ':=h'
  cases l with
  |list n=>
   refine qyt h' fun vs e1 h=>?_;clear h'
   refine qdu h fun hc h=>?_;refine qct h ?_
   refine qao (R.list e1) fun its z34_1 r l=>?_;refine qaj z34_1 fun m p=>?_
   refine P.delItem_list (k:=k.toNat) p (by unfold Builtin.List.listFitsIndex;simp;lia) (seqIndex_of hc.1 (by rw [List.size_toArray,r.idx];lia))
    ⟨ρ,Post.list R e1 hc.2.2 p (its':=its.eraseIdx k.toNat) (by simp) (r.erase _) (Nat.le_trans (List.length_eraseIdx_le ..) l)⟩ (qui r l)
  |dict n=>
   refine qyv h' fun kvs e1 h=>?_;clear h'
   refine qdu h fun hc h=>?_;refine qct h ?_
   refine qao (R.dictI e1) fun ps d1 r1 l1=>?_
   have g:=qkt r1 k
   refine qaj (Option.isSome_iff_exists.mp hc) fun v hv=>?_
   rw [hv]at g;refine qac g fun yv gv _=>?_
   refine wpAny_delItem_slot d1.mapOf.typeIs (by decide) F.slot_dict_delitem (call_meetsIn F.slot_dict_delitem d1.mapOf.typeIs F.entry_dict_delitem (F.args_dict_delitem_2 _ _) (meets_dict_delitem_pairs (intKind prog w) _ qgu)
    ⟨ps,d1,by rw [r1.idx,sizeLine_eq];exact Nat.le_trans l1 (by decide),by rw [gv];rfl,fun h' hd hs=>⟨ρ,Post.store R e1 (lc:= .dict n) (by simp [qal]) (by intro z;cases z) hs ⟨_,hd,qte r1,Nat.le_trans qgt l1⟩⟩⟩)
  |_=>exact qa3 h'
 |_=>exact qa3 h'
end
end Mine
end
noncomputable section
namespace Mine
open PySem PySem.Calls PyProof.Rows PySem.W
open Sem (wp)
noncomputable def qph:Code→Bool
 | .builtin id _=>Builtin.Bytes.decodersThatHold.contains id
 |_=>false
noncomputable def Cl (Γ:Ctx):Prop:=qph Γ.code=false∧ ∀x∈Γ.below,qph x.1=false
noncomputable def qas {α:Type} (M:Model) (A:Around) (t:Sem α) (Q:α→Shared→Prop) (s:Shared):Prop:=
 ∀Γ p,Γ.In A→Cl Γ→wp M Γ t (fun a _ s'=>Q a s') (fun _ _ _=>False) p s
noncomputable def qci (M:Model) (A:Around) (c:Code) (R:Result→Shared→Prop) (s:Shared):Prop:=
 ∀Γ p,Γ.code=c→Γ.Below A→Cl Γ→wpCode M Γ R p s
section
variable {α β:Type} {M:Model} {A:Around} {s:Shared}
theorem qbu {t:Sem α} {Q:α→Shared→Prop} (h:wpAny M A t Q (fun _ _=>False) s):qas M A t Q s:=fun Γ p hΓ _=>h Γ p hΓ
theorem qad {a:α} {Q:α→Shared→Prop} (h:Q a s):qas M A (pure a) Q s:=fun _ _ _ _=>h
theorem k_mono {t:Sem α} {Q Q':α→Shared→Prop} (h:qas M A t Q s) (hQ: ∀a s,Q a s→Q' a s):qas M A t Q' s:=
 fun Γ p hΓ hc=>Sem.wp_mono M Γ t (fun a _ s=>hQ a s) (fun _ _ _ h=>h) p s (h Γ p hΓ hc)
theorem qab {m:Sem α} {f:α→Sem β} {Q:β→Shared→Prop} (h:qas M A m (fun a s'=>qas M A (f a) Q s') s):qas M A (m>>=f) Q s:=fun Γ p hΓ hc=>by
 rw [Sem.wp_bind'];exact Sem.wp_mono M Γ m (fun a p' s' h'=>h' Γ p' hΓ hc) (fun _ _ _ h'=>h') p s (h Γ p hΓ hc)
theorem qbc {m:Sem α} {f:α→Sem β} {Q:β→Shared→Prop} (h:wpAny M A m (fun a s'=>qas M A (f a) Q s') (fun _ _=>False) s):qas M A (m>>=f) Q s:=qab (qbu h)
theorem qaw {vs:List Value} {m:Sem α} {Q:α→Shared→Prop} (h:qas M A m Q s):qas M A (holding vs m) Q s:=fun Γ p hΓ hc=>by rw [Sem.wp_holding];exact h Γ p hΓ hc
theorem qy4 {vs:List Value} {m:Sem α} {Q:α→Shared→Prop} (h:qas M A m Q s):qas M A (m.keep vs) Q s:=fun Γ p hΓ hc=>by rw [Sem.wp_keep];exact h Γ p hΓ hc
theorem qhh {vs:List Value} {m:Sem Value} {Q:Value→Shared→Prop} (h:qas M A m Q s):qas M A (operate vs m) Q s:=fun Γ p hΓ hc=>by rw [Sem.wp_operate];exact h Γ p hΓ hc
theorem qkw {vs keep:List Value} {Q:Unit→Shared→Prop} (h:Q () s):qas M A (release vs keep) Q s:=fun Γ p hΓ hc=>by rw [Sem.wp_release];exact h
theorem qfa {m:Sem α} {k:Value→Sem Unit} {Q:α→Shared→Prop} (h:qas M A m Q s):qas M A (m.onRaise k) Q s:=fun Γ p hΓ hc=>by
 rw [Sem.wp_onRaise];exact Sem.wp_mono M Γ m (fun _ _ _ h'=>h') (fun _ _ _ h'=>h'.elim) p s (h Γ p hΓ hc)
theorem qkx {m:Sem α} {Q:Except Value α→Shared→Prop} (h:qas M A m (fun a=>Q (.ok a)) s):qas M A m.attempt Q s:=fun Γ p hΓ hc=>by
 rw [Sem.wp_attempt];exact Sem.wp_mono M Γ m (fun _ _ _ h'=>h') (fun _ _ _ h'=>h'.elim) p s (h Γ p hΓ hc)
theorem qju {t:Sem α} {a:α} {Q:α→Shared→Prop} (e:t=pure a) (h:Q a s):qas M A t Q s:=by rw [e];exact qad h
theorem qcu {pos:Pos} {Q:Unit→Shared→Prop} (h:Q () s):qas M A (standAt pos) Q s:=fun _ _ _ _=>h
theorem qiw {tag:String} {Q:Unit→Shared→Prop} (h:Q () s):qas M A (rule tag) Q s:=fun _ _ _ _=>h
theorem qpi {Q:Unit→Shared→Prop} (h:Q () s):qas M A point Q s:=fun _ _ _ _=>h
theorem qfo {c:Bool} {a b:Sem α} {Q:α→Shared→Prop} (hc:c=true) (h:qas M A a Q s):qas M A (if c=true then a else b) Q s:=by rw [if_pos hc];exact h
theorem qbj {c:Bool} {a b:Sem α} {Q:α→Shared→Prop} (hc:c=false) (h:qas M A b Q s):qas M A (if c=true then a else b) Q s:=by rw [if_neg (by rw [hc];exact Bool.false_ne_true)];exact h
theorem quj {Q:List (Code×Pos)→Shared→Prop}
  (h: ∀st:List (Code×Pos),(∀g,A.guards=some g→guardsOf st=g)→(∀x∈st,qph x.1=false)→Q st s):qas M A stack Q s:=fun Γ p hΓ hc=>by
 show Q ((Γ.code,p)::Γ.below) s
 exact h _ (fun g hg=>by rw [guardsOf_cons];exact hΓ.2.2.2.1 g hg) fun x hx=>by
  rcases List.mem_cons.mp hx with rfl|hx
  ·exact hc.1
  ·exact hc.2 x hx
theorem Cl.enter {Γ:Ctx} (h:Cl Γ) {c:Code} (hc:qph c=false) (hd:Option Value) (p:Pos):Cl (Γ.enter c hd p):=⟨hc,fun x hx=>by
 rcases List.mem_cons.mp hx with rfl|hx
 ·exact h.1
 ·exact h.2 x hx⟩
theorem qcw {c:Code} {R R':Result→Shared→Prop} (h:qci M A c R s) (hR: ∀r s,R r s→R' r s):qci M A c R' s:=fun Γ p hc hΓ hk=>wpCode_mono hR (h Γ p hc hΓ hk)
theorem qy5 {c:Code} {h:Option Value} {Q:Flow→Shared→Prop} (hd:qph c=false) (hc:qci M (A.mark h) c (fun r s'=>match r with| .ok f=>Q f s'| .error _=>False) s) (hnb:h≠some byPass):
  qas M A (run c h) Q s:=fun Γ p hΓ hk=>by
 rw [Sem.wp_run];exact wpCode_mono (fun r s' z=>by cases r<;>exact z) (hc _ p rfl (hΓ.enter c h p hnb) (hk.enter hd h p))
theorem qnx {c:Code} {Q:Value→Shared→Prop} (hd:qph c=false) (hc:qci M A c (fun r s'=>match r with| .ok (.ret v)=>Q v s'|_=>False) s):qas M A (runValue c) Q s:=fun Γ p hΓ hk=>by
 rw [Sem.wp_runValue];refine wpCode_mono (fun r s' z=>?_) (hc _ p rfl (hΓ.enter c none p (by intro x;cases x)) (hk.enter hd none p))
 rcases r with e|(v|_|_|_)<;>exact z
theorem qgv {f:Value} {pos:List Value} {kw:List (Str×Value)} {Q:Value→Shared→Prop} (hc:qci M A (.call f ⟨pos,kw⟩) (fun r s'=>match r with| .ok (.ret v)=>Q v s'|_=>False) s):
  qas M A (call f pos kw) Q s:=qnx rfl hc
theorem qc6 {c:Code} {R:Result→Shared→Prop}
  (h:qas M (A.under c) (M.den c) (fun fin s'=>match fin with| .done f=>R (.ok f) s'| .again c'=>c'.quiet=true∧qph c'=false∧qci M A c' R s') s):qci M A c R s:=fun Γ p hc hΓ hk=>by
 rw [wpCode_iff_wp,hc];refine Sem.wp_mono M Γ _ (fun fin p' s' h'=>?_) (fun _ _ _ h'=>h'.elim) p s (h Γ p (hc ▸ hΓ.in) hk)
 cases fin with
 |done f=>exact h'
 |again c'=>exact⟨h'.1,h'.2.2 (Γ.goto c') p' rfl (hΓ.goto c') ⟨h'.2.1,hk.2⟩⟩
theorem quk {c:Code} {R:Result→Shared→Prop} (hq:c.quiet=true) (hd:qph c=false) (I:Nat→Shared→Prop)
  (turn: ∀n s,I n s→qas M (A.under c) (M.den c) (fun fin s'=>match fin with| .done f=>R (.ok f) s'| .again c'=>c'=c∧ ∃m,m<n∧I m s') s)
  (n:Nat) (h:I n s):qci M A c R s:=by
 induction n using Nat.strongRecOn generalizing s with
 |ind n ih=>
  refine qc6 (k_mono (turn n s h) fun fin s' hf=>?_)
  cases fin with
  |done f=>exact hf
  |again c'=>obtain⟨rfl,m,hm,hI⟩:=hf;exact⟨hq,hd,ih m hm hI⟩
end
section
variable {α β:Type} {w:World} {S:qc5 prog w} {A:Around} {ρ:Rho} {σ σ₁:St} {s s₀:Shared} {v:V} {vs:List Value}
theorem qd6 {t:Sem Value} {Q:Value→Shared→Prop} (h:qas (model prog w) A t (PV S ρ σ s v σ₁) s₀) (k: ∀a s₁ ρ₁,Post S noF ρ σ s ρ₁ σ₁ s₁→VR ρ₁ σ₁.next v a→Q a s₁):qas (model prog w) A t Q s₀:=
 k_mono h fun a s₁ z=>qac z (k a s₁)
theorem qy6 {t:Sem α} {Q:α→Shared→Prop} (h:qas (model prog w) A t (fun _=>PU S ρ σ s σ₁) s₀) (k: ∀a s₁ ρ₁,Post S noF ρ σ s ρ₁ σ₁ s₁→Q a s₁):qas (model prog w) A t Q s₀:=
 k_mono h fun a s₁ z=>qaj z (k a s₁)
theorem qd1 {t:Sem Value} {f:Value→Sem β} {Q:β→Shared→Prop} (h:qas (model prog w) A t (PV S ρ σ s v σ₁) s₀) (k: ∀a s₁ ρ₁,Post S noF ρ σ s ρ₁ σ₁ s₁→VR ρ₁ σ₁.next v a→qas (model prog w) A (f a) Q s₁):qas (model prog w) A (t>>=f) Q s₀:=
 qab (qd6 h k)
theorem qe3 {t:Sem Value} {f:Value→Sem β} {Q:β→Shared→Prop} (h:qas (model prog w) A t (PV S ρ σ s v σ₁) s₀) (k: ∀a s₁ ρ₁,Post S noF ρ σ s ρ₁ σ₁ s₁→VR ρ₁ σ₁.next v a→qas (model prog w) A (f a) Q s₁):qas (model prog w) A (holding vs t>>=f) Q s₀:=
 qab (qaw (qd6 h k))
theorem qy7 {t:Sem Value} {f:Value→Sem β} {Q:β→Shared→Prop} (h:wpAny (model prog w) A t (PV S ρ σ s v σ₁) nE s₀) (k: ∀a s₁ ρ₁,Post S noF ρ σ s ρ₁ σ₁ s₁→VR ρ₁ σ₁.next v a→qas (model prog w) A (f a) Q s₁):qas (model prog w) A (t>>=f) Q s₀:=
 qab (qd6 (qbu h) k)
theorem qpj {t:Sem α} {f:α→Sem β} {Q:β→Shared→Prop} (h:wpAny (model prog w) A t (fun _=>PU S ρ σ s σ₁) nE s₀) (k: ∀a s₁ ρ₁,Post S noF ρ σ s ρ₁ σ₁ s₁→qas (model prog w) A (f a) Q s₁):qas (model prog w) A (holding vs t>>=f) Q s₀:=
 qab (qaw (qy6 (qbu h) k))
theorem qnb {t:Sem α} {f:α→Sem β} {Q:β→Shared→Prop} (h:qas (model prog w) A t (fun _=>PU S ρ σ s σ₁) s₀) (k: ∀a s₁ ρ₁,Post S noF ρ σ s ρ₁ σ₁ s₁→qas (model prog w) A (f a) Q s₁):qas (model prog w) A (holding vs t>>=f) Q s₀:=
 qab (qaw (qy6 h k))
end
end Mine
end
noncomputable section
namespace Mine
open PySem PySem.Calls PyProof.Rows PySem.W
open Sem (wp)
section
variable {M:Model} {A:Around} {s:Shared} {env:Env}
theorem qbw {Q:List Value→Shared→Prop} (h:Q [] s):qas M A (spliced []) Q s:=qad h
theorem qbf {x:Sem Value} {rest:List (Bool×Sem Value)} {Q:List Value→Shared→Prop} (h:qas M A x (fun v s₁=>qas M A (spliced rest) (fun vs s₂=>Q (v::vs) s₂) s₁) s):
  qas M A (spliced ((false,x)::rest)) Q s:=by
 rw [spliced];refine qab (k_mono h fun v s₁ h₁=>?_)
 simp only [Bool.false_eq_true,if_false];exact qab (qad (qab (qaw (k_mono h₁ fun vs s₂ h₂=>qad h₂))))
theorem qgf {f:Value} {args:List (Bool×Sem Value)} {Q:Args→Shared→Prop} (hp:args.any (·.1)=false) (h:qas M A (spliced args) (fun vs s'=>Q ⟨vs,[]⟩ s') s):
  qas M A (evalArgs f true args []) Q s:=by
 cases args with
 |nil=>
  unfold evalArgs;show qas M A (spliced []>>=_) Q s
  refine qab (k_mono h fun vs s' h'=>?_)
  exact qaw (qab (qad (qab (qad (qad h')))))
 |cons x r=>
  obtain⟨b,x⟩:=x
  cases b with
  |true=>simp at hp
  |false=>
   unfold evalArgs;show qas M A (spliced ((false,x)::r)>>=_) Q s
   refine qab (k_mono h fun vs s' h'=>?_)
   exact qaw (qab (qad (qab (qad (qad h')))))
theorem qgg {pos:Pos} {f:Value} {first:List Value} {args:List (Bool×Sem Value)} {Q:Value→Shared→Prop} (hp:args.any (·.1)=false)
  (h:qas M A (evalArgs f true args []) (fun a s₁=>a.kw= []∧(∃k,(k= .frame∨k= .machine)∧ ∀Q',Q' k s₁→wpAny M A (keeperOf f) Q' (fun _ _=>False) s₁)∧qas M A (call f (first++a.pos) []) Q s₁) s):
  qas M A (callWith pos f first args []) Q s:=by
 unfold callWith;refine qab (qaw (k_mono h fun a s₁ h₁=>qab (qcu ?_)))
 refine qeg h₁ fun hk z1_1 hc=>?_;refine qac z1_1 fun k hkk hke=>?_
 have tail: ∀{t:Sem Value},qas M A t Q s₁→qas M A (t>>=fun r=>holding [r] point>>=fun _=>pure r) Q s₁:=
  fun ht=>qab (k_mono ht fun r s₂ hr=>qab (qaw (qpi (qad hr))))
 simp only [hp,List.any_nil,Bool.or_false];rw [hk];refine qbc (hke _ ?_)
 rcases hkk with rfl|rfl
 ·dsimp only;split
  ·exact tail hc
  ·exact tail (by unfold callMarked;exact qy4 hc)
 ·exact tail hc
end
section
variable {w:World} {A:Around} {s:Shared} {env:Env}
theorem qrr {stmts:List Stmt} {R:Result→Shared→Prop} (h:qas (model prog w) A (execs stmts env) (fun f s'=>R (.ok f) s') s):qci (model prog w) A (.block stmts env) R s:=by
 refine qc6 ?_
 show qas _ _ (do return Fin.done (← (execs stmts env).onRaise (fun x=>do noteFrame x env;theTreesLotGoes x))) _ s
 have hA:A.under (.block stmts env)=A:=Around.under_of_weight rfl
 rw [hA];exact qab (qfa (k_mono h fun f s' h'=>qad h'))
theorem qny {R:Result→Shared→Prop} {target:PySem.Expr} {it:Value} {body:List Stmt} (I:Nat→Shared→Prop)
  (turn: ∀n s,I n s→qas (model prog w) A (pyNext it) (fun r s₁=>match r with
   |none=>R (.ok .next) s₁
   |some v=>qas (model prog w) A (letOwnedTupleGo target it v) (fun _ s₁=>qas (model prog w) A (assign target env v) (fun _ s₂=>qas (model prog w) A (execs body env) (fun f s₃=>match f with
     | .next| .cont=> ∃m,m<n∧I m s₃
     | .brk=>R (.ok .next) s₃
     | .ret v=>R (.ok (.ret v)) s₃) s₂) s₁) s₁) s)
  (n:Nat) (h:I n s):qci (model prog w) A (.forLoop target it body [] env) R s:=by
 have hA:A.under (.forLoop target it body [] env)=A:=Around.under_of_weight rfl
 induction n using Nat.strongRecOn generalizing s with
 |ind n ih=>
  refine qc6 ?_
  rw [hA];show qas _ _ ((forTurn target it body [] env).onRaise (fun x=>do noteFrame x env;theTreesLotGoes x)) _ s
  refine qfa ?_
  simp only [forTurn];refine qab (qcu (qab (qfa (k_mono (turn n s h) fun r s₁ h₁=>?_))))
  cases r with
  |none=>exact qad ⟨rfl,rfl,qrr (qbu (wpAny_execs_nil h₁))⟩
  |some v=>
   refine qab (k_mono h₁ fun _ s₁ h₁=>qab (k_mono h₁ fun _ s₂ h₂=>qab (k_mono h₂ fun f s₃ h₃=>?_)))
   cases f with
   |next=>refine qac h₃ fun m hm hI=>?_;exact qad ⟨rfl,rfl,ih m hm hI⟩
   |cont=>refine qac h₃ fun m hm hI=>?_;exact qad ⟨rfl,rfl,ih m hm hI⟩
   |brk=>exact qad h₃
   |ret v=>exact qad h₃
theorem qrs {c:Code} {Q:PySem.Flow→Shared→Prop} (hd:qph c=false) (hc:qci (model prog w) A c (fun r s'=>match r with| .ok f=>Q f s'| .error _=>False) s):qas (model prog w) A (runOwn c env) Q s:=by
 unfold runOwn;exact qfa (qy5 hd hc (fun x=>nomatch x))
theorem qnz {target iter:PySem.Expr} {body:List Stmt} {pos:Pos} {Q:PySem.Flow→Shared→Prop}
  (h:qas (model prog w) A (eval iter env) (fun x s₁=>qas (model prog w) A (pyIter x) (fun it s₂=>qci (model prog w) A (.forLoop target it body [] env) (fun r s'=>match r with| .ok f=>Q f s'| .error _=>False) s₂) s₁) s)
  (hs: ∀x,foldedSetIterable iter env x=pure x):qas (model prog w) A (exec (.For target iter body [] pos) env) Q s:=by
 rw [exec_For];refine qab (qcu (qab (k_mono h fun x s₁ h₁=>?_)))
 rw [hs];exact qab (qad (qab (qcu (qab (qaw (k_mono h₁ fun it s₂ h₂=>qrs rfl h₂))))))
set_option backward.match.sparseCases true in
theorem qul {body:List Stmt} {R:Result→Shared→Prop} (h:qas (model prog w) (A.deeper env) (execs body env) (fun f s'=>R (.ok (.ret (match f with| .ret v=>v|_=> .none))) s') s):qci (model prog w) A (.func body env) R s:=by
 refine qc6 ?_
 show qas _ (A.deeper env) (do point;match ← (execs body env).onRaise (leaving env)with| .ret v=>ret v|_=>ret .none) _ s
 refine qab (qpi (qab (qfa (k_mono h fun f s' h'=>?_))))
 cases f<;>exact qad h'
set_option backward.match.sparseCases true in
theorem qn0 {R:Result→Shared→Prop} {a:Addr} {o:Obj} {fd:FuncData} {body:List Stmt} {vals:List Value} {binds:List (Str×Value)}
  (hroom:A.depth<recursionLimit) (ho:s.heap.get? a=some o) (hdata:o.data= .func fd) (hlim:s.heap.NoLimit) (hcd:s.heap.CodeRec fd.code fd.qualname)
  (hbody:fd.body= .stmts body) (hbind:bindArgs fd ⟨vals,[]⟩=pure binds) (hclo:fd.closure= [])
  (hkind: ∀x∈binds,fd.scope.names.lookup x.1=some .local∨(fd.scope.names.lookup x.1=some .cell∧((cellsFrom (s.heap.objs.size+1) fd.scope.names []).lookup x.1).isSome=true))
  (h: ∀s₁,InCallC s (callEnvC fd s.heap.objs.size a).locals (bindL (callEnvC fd s.heap.objs.size a).kindOf binds fun _=>none) (callEnvC fd s.heap.objs.size a).cells
    (bindC (callEnvC fd s.heap.objs.size a).kindOf binds fun _=>none) s₁→
   qas (model prog w) (A.deeper (callEnvC fd s.heap.objs.size a)) (execs body (callEnvC fd s.heap.objs.size a)) (fun f s'=>R (.ok (.ret (match f with| .ret v=>v|_=> .none))) s') s₁)
  (hco:fd.scope.isCoroutine=false) (hgen:fd.scope.isGenerator=false) (hk:fd.scope.kind= .function):
  qci (model prog w) A (.call (.ref a) ⟨vals,[]⟩) R s:=by
 refine qc6 ?_
 show qas _ A.in1 (callAny (.ref a) ⟨vals,[]⟩) _ s
 simp only [callAny];refine qbc (wpAny_load ho ?_)
 refine qri hcd fun c oc vs tq hc hoc hdc hq=>?_
 simp only [hdata,callFunction,hco,hgen,hbody,hc];refine qbc (m:=field (.ref c) 1) (wpAny_field hoc hdc hq ?_)
 refine qab (qad ?_)
 refine qab (qju hbind ?_)
 rw [hclo];refine qbc (wpAny_newFunctionEnv_cells hk hkind fun env he s' x=>?_)
 have he':env=callEnvC fd s.heap.objs.size a:=by rw [he];unfold callEnvC;rw [hc]
 subst he';exact qbc (wpAny_enterFrame (hlim.keeps x.toInCall.keep) hroom (qad ⟨rfl,rfl,qul (h s' x)⟩))
end
end Mine
end
noncomputable section
namespace Mine
open PySem PySem.Calls PyProof.Rows PySem.W
open Sem (wp)
section
variable {M:Model} {A:Around} {s:Shared} {env:Env}
noncomputable def qmd (M:Model) (A:Around) (use:Option (Value→Sem Unit)) (Q:Value→Shared→Prop) (acc:Value) (C:Addr) (r:Result) (s':Shared):Prop:=
 match r,use with
 | .ok _,none=> ∃m,s'.heap.Ns C m∧ ∀h',Heap.SameBut C s'.heap h'→Q acc {s' with heap:=h'}
 | .ok _,some u=>qas M A (u acc) (fun _ s''=> ∃m,s''.heap.Ns C m∧ ∀h',Heap.SameBut C s''.heap h'→Q .none {s'' with heap:=h'}) s'
 | .error _,_=>False
theorem qpk {α:Type} {c:Prop} [Decidable c] {pos:Pos} {k:PUnit→Sem α} {Q:α→Shared→Prop} (h:qas M A (k ()) Q s):qas M A (if c then(standAt pos>>=k)else k ()) Q s:=by
 split
 ·exact qab (qcu h)
 ·exact h
theorem qy8 {e:PySem.Expr} {scope:Scope} {pos:Pos} {newAcc first:Sem Value} {g:Comprehension} {gs:List Comprehension} {cl:List (Str×Addr)} {use:Option (Value→Sem Unit)} {Q:Value→Shared→Prop}
  (hcl:clausesOf e=g::gs) (hs: ∀x,foldedSetIterable g.iter env x=pure x) (hclos:closureFor scope env=pure cl)
  (hkind:scope.kind= .function) (hnames: ∀x∈scope.names,x.2= .local→scope.names.lookup x.1=some .local)
  (h:qas M A first (fun x s₁=>qas M A (pyIter x) (fun it s₂=>qas M A newAcc (fun acc s₃=>
   qas M A (newFunctionEnv scope env.globals cl [] env.qual none .none (some env)) (fun cenv s₄=>
    qci M A (.compStart e 0 it acc {cenv with scope:=relabel scope env}) (qmd M A use Q acc cenv.locals) s₄) s₃) s₂) s₁) s):
  qas M A (comprehension e scope env pos newAcc false first use) Q s:=by
 unfold comprehension;rw [hclos,hcl];refine qab (k_mono h fun x s₁ h₁=>qab (qcu (qab (qju (hs x) (qab (qaw (k_mono h₁ fun it s₂ h₂=>?_)))))))
 refine qpk (qab (k_mono h₂ fun acc s₃ h₃=>qab (qad (qab (k_mono h₃ fun cenv s₄ h₄=>?_)))))
 dsimp only;have hv: ∀x∈(scope.names.filter fun x=>(x.2== .local||x.2== .cell)&&x.1 !=(".0" :Str)).reverse,x.2= .local→
   Env.kindOf {cenv with scope:=relabel scope env} x.1=some .local:=fun x hx hl=>lookup_relabel_local (hnames x (List.mem_filter.mp (List.mem_reverse.mp hx)).1 hl)
 have hv': ∀x∈(scope.names.filter fun x=>(x.2== .local||x.2== .cell)&&x.1 !=(".0" :Str)).reverse.drop 1++(scope.names.filter fun x=>(x.2== .local||x.2== .cell)&&x.1 !=(".0" :Str)).reverse.take 1,
   x.2= .local→Env.kindOf {cenv with scope:=relabel scope env} x.1=some .local:=fun x hx hl=>by
  rcases List.mem_append.mp hx with h1|h1
  ·exact hv x (List.mem_of_mem_drop h1) hl
  ·exact hv x (List.mem_of_mem_take h1) hl
 refine qaw (qab (qkx (qaw (qy5 rfl (qcw h₄ fun r s' hr=>?_) (fun x=>nomatch x)))))
 cases r with
 |ok f=>
  cases use with
  |none=>
   refine qac hr fun m hn hr=>?_
   exact qab (qaw (qbu (wpAny_comp_letGo (cenv:= {cenv with scope:=relabel scope env}) hkind _ s' m hv hn fun h' m' _ hs'=>qad (hr h' hs'))))
  |some u=>
   refine qab (qiw (qab (qaw (k_mono hr fun _ s'' hr'=>?_))))
   refine qac hr' fun m hn hr'=>?_
   exact qbc (wpAny_comp_letGo (cenv:= {cenv with scope:=relabel scope env}) hkind _ s'' m hv' hn fun h' m' _ hs'=>qad (hr' h' hs'))
 |error x=>exact hr.elim
end
section
variable {w:World} {A:Around} {s:Shared} {env:Env} {R:Result→Shared→Prop}
theorem qky {elt target iter:PySem.Expr} {ifs:List PySem.Expr} {scope:Scope} {pos:Pos} {it acc:Value} (hA:A.under (.compStart (.ListComp elt [⟨target,iter,ifs,0⟩] scope pos) 0 it acc env)=A)
  (h0:qci (model prog w) A (.compLoop (.ListComp elt [⟨target,iter,ifs,0⟩] scope pos) 0 it acc env) R s)
  (h:qas (model prog w) A (pyIter it) (fun it' s'=>qci (model prog w) A (.compLoop (.ListComp elt [⟨target,iter,ifs,0⟩] scope pos) 0 it' acc env) R s') s):
  qci (model prog w) A (.compStart (.ListComp elt [⟨target,iter,ifs,0⟩] scope pos) 0 it acc env) R s:=by
 refine qc6 ?_
 rw [hA];show qas _ _ ((compStart (.ListComp elt [⟨target,iter,ifs,0⟩] scope pos) 0 it acc env).onRaise (fun x=>do noteFrame x env;standAt theWindowsPlace)) _ s
 refine qfa ?_
 unfold compStart;show qas _ _ (ask>>=_) _ s
 refine qbc (wpAny_askSetting ?_)
 split
 ·exact qab (qad (qad ⟨rfl,rfl,h0⟩))
 ·exact qab (qiw (qab (qcu (qab (k_mono h fun it' s' h'=>qad ⟨rfl,rfl,h'⟩)))))
theorem qme {elt target iter:PySem.Expr} {ifs:List PySem.Expr} {scope:Scope} {pos:Pos} {it acc:Value} (hA:A.under (.compLoop (.ListComp elt [⟨target,iter,ifs,0⟩] scope pos) 0 it acc env)=A) (I:Nat→Shared→Prop)
  (turn: ∀n s,I n s→qas (model prog w) A (pyNext it) (fun r s₁=>match r with
   |none=>R (.ok .next) s₁
   |some v=>qas (model prog w) A (assign target env v) (fun _ s₂=>
     qas (model prog w) A (forIn ifs true fun c r=>if r=true then do let ok ←isTrue c env (eval c env);pure (ForInStep.yield ok)else pure (ForInStep.yield r)) (fun ok s₃=>
      if ok=true then qas (model prog w) A (eval elt env) (fun x s₄=>
       qas (model prog w) A (call (.builtin "list.append") [acc,x]) (fun _ s₅=> ∃m,m<n∧I m s₅) s₄) s₃
      else ∃m,m<n∧I m s₃) s₂) s₁) s)
  (n:Nat) (h:I n s) (ht: ∀v,letOwnedTupleGo target it v=pure ()):qci (model prog w) A (.compLoop (.ListComp elt [⟨target,iter,ifs,0⟩] scope pos) 0 it acc env) R s:=by
 refine quk rfl rfl I (fun n s hI=>?_) n h
 rw [hA];show qas _ A ((compTurn (.ListComp elt [⟨target,iter,ifs,0⟩] scope pos) 0 it acc env).onRaise (fun x=>do noteFrame x env;theTreesLotGoes x)) _ s
 refine qfa ?_
 rw [compTurn_list];refine qab (qcu (qab (k_mono (turn n s hI) fun r s₁ h₁=>?_)))
 cases r with
 |none=>exact qad h₁
 |some v=>
  refine qab (qju (ht v) (qab (k_mono h₁ fun _ s₂ h₂=>qab (k_mono h₂ fun ok s₃ h₃=>?_))))
  cases ok with
  |true=>exact qab (qab (k_mono h₃ fun x s₄ h₄=>qab (k_mono h₄ fun _ s₅ h₅=>qad (qad ⟨rfl,h₅⟩))))
  |false=>exact qad ⟨rfl,h₃⟩
end
end Mine
end
noncomputable section
namespace Mine
open PySem PySem.Calls PyProof.Rows PySem.W
open Sem (wp)
section
variable {w:World} {A:Around} {C:Addr} {R:Result→Shared→Prop} {h:Heap} {g:Array GenState} {d:Drawn} {t:Nat} {os:OsState}
theorem qev {id:String} {args:Args} {b:Builtin} {s:Shared} (hb:entryFor table id=some b)
  (h:qas (model prog w) (A.under (.builtin id args)) (b args) (fun fin s'=>match fin with| .done f=>R (.ok f) s'| .again c'=>c'.quiet=true∧qph c'=false∧qci (model prog w) A c' R s') s):
  qci (model prog w) A (.builtin id args) R s:=by
 refine qc6 ?_
 show qas _ _ (match entryFor table id with|some b=>b args|none=>unsupported ((withoutEnding? id "#data").getD id)) _ s
 rw [hb];exact h
theorem qum {rest:List Value} {init:Value} (Y:Makes (model prog w) h C) (hi:Looks (model prog w) h (typeLookup (.ref C) "__init__") (some init))
  (hb: ∀self,Looks (model prog w) h (bindSpecial init self) (init,[self])) (hne:(some init !=some (Value.builtin "object.__init__"))=true)
  (hq:qci (model prog w) (A.under (.builtin "type.__call__" ⟨.ref C::rest,[]⟩)) (.call init ⟨.ref (h.objs.size+1)::rest,[]⟩) (fun r s'=>r= .ok (.ret .none)∧R (.ok (.ret (.ref (h.objs.size+1)))) s') ⟨(h.push emptyDict).push (instObj C h.objs.size),g,d,t,os⟩):
  qci (model prog w) A (.call (.ref C) ⟨rest,[]⟩) R ⟨h,g,d,t,os⟩:=by
 have Y':=Y
 obtain⟨⟨oc,od,cd,sl,hC,e1,e2,e4⟩,made,base,self,top,call_,typ⟩:=Y
 refine qc6 ?_
 show qas _ _ (callAny (.ref C) ⟨rest,[]⟩) _ _
 refine qbc (wpAny_load hC ?_)
 show qas _ _ (callAny.viaDunder (.ref C) ⟨rest,[]⟩) _ _
 unfold callAny.viaDunder;refine qbc (call_.at ?_)
 dsimp only;rw [tc_bind];refine qab (qad (qab (qad ?_)))
 refine qad (a:=Fin.again (.call (.builtin "type.__call__") ⟨.ref C::rest,[]⟩)) ⟨rfl,rfl,?_⟩
 refine qc6 ?_
 show qas _ A.in1 (do checkBuiltinCall "type.__call__" ⟨.ref C::rest,[]⟩;again (.builtin "type.__call__" ⟨.ref C::rest,[]⟩)) _ _
 refine qbc (check_slot tc_kind tc_split typ (tc_args _ _ _) (qad ⟨Code.quiet_builtin _ (by decide+kernel),by show Builtin.Bytes.decodersThatHold.contains "type.__call__" =false;decide+kernel,?_⟩))
 refine qev entry_typeCall ?_
 unfold Builtin.«type.__call__»;have hm:Looks (model prog w) h (mroOf (.ref C)) cd.mro:=((Looks.ld (part:=none) hC).andThen .now).andThen .now
 refine qbc (hm.at ?_)
 simp only [e4,Bool.false_eq_true,if_false];refine qbc (made.at ?_)
 refine qab (qad ?_)
 refine qab (qaw (qbu (wpAny_call (new_K Y' hi (.inl hne) ?_))))
 have k: ∀b o,h.get? b=some o→((h.push emptyDict).push (instObj C h.objs.size)).get? b=some o:=fun b o e=>Heap.get?_push_of_some _ (Heap.get?_push_of_some _ e)
 have hx:((h.push emptyDict).push (instObj C h.objs.size)).get? (h.objs.size+1)=some (instObj C h.objs.size):=by heap_get
 have t1:Looks (model prog w) ((h.push emptyDict).push (instObj C h.objs.size)) (typeOf (.ref (h.objs.size+1))) (.ref C):=(Looks.ld hx).andThen .now
 have s1:=self.keeps k
 have i1:=hi.keeps k
 have b1:=(hb (.ref (h.objs.size+1))).keeps k
 have is1:Looks (model prog w) ((h.push emptyDict).push (instObj C h.objs.size)) (isInstance (.ref (h.objs.size+1)) (.ref C)) true:=t1.andThen s1
 refine qbc (is1.at ?_)
 simp only [Bool.not_true,Bool.false_eq_true,if_false];refine qab (qaw ?_)
 unfold callSpecial? specialOf;refine qbc (wpAny_bind (t1.at (i1.at ?_)))
 dsimp only;refine qaw (qbc (b1.at ?_))
 refine qab (qgv (qcw hq fun r s' z=>?_))
 obtain⟨rfl,z⟩:=z
 exact qad (qad z)
end
end Mine
end
noncomputable section
namespace Mine
open PySem PySem.Calls PyProof.Rows PySem.W
open Sem (wp)
theorem qpl:mroOf (.type "bytearray")=pure [.type "bytearray",.type "object"]:=by rw [mroOf_type];kernel_rfl
theorem qjv:typeLookup (.type "bytearray") "__new__" =pure (some (.builtin "bytearray.__new__")):=by rw [typeLookup_type,builtinLookup_eq_fast];kernel_rfl
theorem ba_slot_init:Slot "bytearray" "__init__" "bytearray.__init__" :=
 .of (owner:="bytearray") (n:="__init__") (by rw [typeLookup_type,builtinLookup_eq_fast];kernel_rfl) (by decide+kernel) (by decide+kernel) (by decide+kernel)
  (by first|exact .inl (by decide+kernel)|exact .inr (by decide+kernel)) (by rw [isSubtype_type];kernel_rfl)
theorem ba_called:TypeCalled "bytearray" "bytearray.__new__" "bytearray.__init__" :=
 ⟨by decide+kernel,by decide+kernel,⟨_,_,qpl⟩,madeBy_type qpl qjv (by decide+kernel),by decide+kernel,by rw [isSubtype_type];kernel_rfl,ba_slot_init⟩
theorem qmf (a:Value):checkTypeCall "bytearray" ⟨[a],[]⟩=pure ():=by kernel_rfl
theorem qjw:entryFor table "bytearray.__init__" =some Builtin.«bytearray.__init__» :=by first|exact entryFor_of_fast (by kernel_rfl)|exact entryFor_of_tree (by kernel_rfl)
theorem qun (a b:Value):argsOk "bytearray.__init__" ⟨[a,b],[]⟩:=by unfold argsOk;kernel_rfl
theorem quo (v:Value):Builtin.Bytes.bindOptional "bytearray.__init__" "bytearray" ["source","encoding","errors"] [v] []=pure [some v,none,none]:=by kernel_rfl
theorem qn1:typeLookup (.type "bytearray") "__release_buffer__" =pure (some (.builtin "bytearray.__release_buffer__")):=by rw [typeLookup_type,builtinLookup_eq_fast];kernel_rfl
theorem qti:isSubtype (.type "bytearray") (.type "bytearray")=pure true:=by rw [isSubtype_type];kernel_rfl
theorem qnc:typeLookup (.type "bytes") "__index__" =pure none:=by rw [typeLookup_type,builtinLookup_eq_fast];kernel_rfl
section
variable {w:World} {A:Around} {s:Shared}
open Builtin
theorem qmg {a:Addr} {Q:Bool→Shared→Prop} (hg:A.guards=some []) (h:Q false s):qas (model prog w) A (Bytes.exported (.ref a)) Q s:=by
 unfold Bytes.exported;refine qab (quj fun st hst hcl=>qad ?_)
 refine(congrArg (Q · s) (?_:_=false)).mpr h
 rw [List.any_eq_false]
 rintro ⟨c,p⟩ hx
 have hn:c.isGuard=false:=by
  cases q:c.isGuard with
  |false=>rfl
  |true=>
   have:c∈guardsOf st:=by unfold guardsOf;exact List.mem_filter.mpr ⟨List.mem_map_of_mem (f:=(·.1)) hx,q⟩
   rw [hst [] hg]at this;cases this
 have hd:qph c=false:=hcl _ hx
 rw [Bool.not_eq_true];cases c with
 |builtin id args=>
  have hn:guardIds.contains id=false:=hn
  have hd:Bytes.decodersThatHold.contains id=false:=hd
  have no: ∀{i:String},guardIds.contains i=true→ ¬id=i:=fun hi q=>by rw [q,hi]at hn;cases hn
  delta PySem.Builtin.Bytes.exported.match_1
  show dite (id="bytearray.__contains__") _ _=false
  rw [dif_neg (no (by decide+kernel))];show dite (id="bytearray.__mod__") _ _=false
  rw [dif_neg (no (by decide+kernel))];show dite (id="bytearray.__rmod__") _ _=false
  rw [dif_neg (no (by decide+kernel))];show dite (id="_struct.pack_into.held") _ _=false
  rw [dif_neg (no (by decide+kernel))];show dite (id="bytearray.find.held") _ _=false
  rw [dif_neg (no (by decide+kernel))];obtain⟨pos,kw⟩:=args
  cases pos with
  |nil=>rfl
  |cons v tail=>
   show(_&&Bytes.decodersThatHold.contains id)=false
   rw [show Bytes.decodersThatHold.contains id=false from hd,Bool.and_false]
 |_=>rfl
theorem qjx {a:Addr} {b:Array UInt8} {f:Array UInt8→Array UInt8} {Q:Unit→Shared→Prop} (ho:s.heap.get? a=some {cls:= .type "bytearray",data:= .bytearray b 0}) (hz:(f b).size≤1000)
  (h: ∀h',Heap.SameBut a s.heap h'→h'.get? a=some {cls:= .type "bytearray",data:= .bytearray (f b) 0}→Q () {s with heap:=h'}):wpAny (model prog w) A (Bytes.write (.ref a) f) Q nE s:=by
 show wpAny _ _ (updateBytearray a f) _ _ _
 unfold updateBytearray;refine wpAny_bind (wpAny_load ho ?_)
 have g:(s.heap.update a (Obj.mapBytearray f)).get? a=some {cls:= .type "bytearray",data:= .bytearray (f b) 0}:=Heap.get?_update_self _ ho rfl
 refine wpAny_bind (wpAny_update ho (wpAny_lookBehind g ?_ (h _ (Heap.SameBut.update ..) g)))
 show Data.pastItsLine (.bytearray (f b) 0)=none
 unfold Data.pastItsLine;dsimp only;rw [if_neg (by rw [sizeLine_eq];lia)]
theorem qup {a:Addr} {b:Array UInt8} {t:Tok} {Q:Value→Shared→Prop} (hg:A.guards=some []) (hz:b.size≤1000) (ho:s.heap.get? a=some {cls:= .type "bytearray",data:= .bytearray #[] 0})
  (h: ∀h',Heap.SameBut a s.heap h'→h'.get? a=some {cls:= .type "bytearray",data:= .bytearray b 0}→Q .none {s with heap:=h'}):qas (model prog w) A (call (.builtin "bytearray.__init__") [.ref a,.bytes b t]) Q s:=by
 have hT:s.TypeIs (.ref a) "bytearray" :=⟨_,ho,rfl⟩
 refine qgv (qc6 ?_)
 show qas _ A.in1 (do checkBuiltinCall "bytearray.__init__" ⟨[.ref a,.bytes b t],[]⟩;again (.builtin "bytearray.__init__" ⟨[.ref a,.bytes b t],[]⟩)) _ s
 refine qbc (ba_slot_init.check _ _ _ _ _ _ _ _ hT (qun _ _) (qad ⟨plainId_quiet ba_slot_init.plain _,by show Bytes.decodersThatHold.contains "bytearray.__init__" =false;decide+kernel,qev qjw ?_⟩))
 rw [Around.under_plainId ba_slot_init.plain];unfold Builtin.«bytearray.__init__»;have own: ∀{Q:Bool→Shared→Prop},Q false s→wpAny (model prog w) A.in1 (Bytes.ownRelease (.ref a)) Q nE s:=fun hq=>by
  unfold Bytes.ownRelease Bytes.slotIsOwn;refine wpAny_bind (wpAny_bind (wpAny_specialOf hT qn1 ?_))
  dsimp only;rw [if_neg (by decide+kernel),show "bytearray.__release_buffer__".dropRight ("__release_buffer__".length+1)="bytearray" from by decide+kernel];exact wpAny_isInstance hT qti (wpAny_pure hq)
 refine qbc (own ?_)
 refine qbj rfl ?_
 refine qab (qju (quo _) ?_)
 refine qab (qad ?_)
 refine qab (qad ?_)
 refine qab ?_
 unfold orM;refine qab (qmg (by exact hg) ?_)
 show qas _ _ (Bytes.exportsOf (.ref a)>>=fun x=>pure (decide (x>0))) _ _
 unfold Bytes.exportsOf;refine qab (qbc (wpAny_load ho ?_))
 refine qad (qad ?_)
 refine qbj (by decide) ?_
 refine qbc (qjx ho (Nat.zero_le _) fun h1 hs1 g1=>?_)
 refine qab (qju (a:=none) rfl ?_)
 refine qbj rfl ?_
 refine qab (qju (a:=()) rfl ?_)
 refine qab (qju (KBy.special_eq qnc) ?_)
 refine qbj rfl ?_
 refine qab (qju KBy.buffer_eq ?_)
 refine qab (qiw (qbc (qjx g1 hz fun h2 hs2 g2=>?_)))
 exact qad (h h2 (hs1.trans hs2) g2)
end
end Mine
end
noncomputable section
namespace Mine
open PySem PySem.Calls PyProof.Rows PySem.W PySem.Builtin
noncomputable def NewAt (s:Shared) (o:Obj) (Q:Value→Shared→Prop):Prop:= ∀a h',(∀b o,s.heap.get? b=some o→h'.get? b=some o)→s.heap.get? a=none→h'.get? a=some o→Q (.ref a) {s with heap:=h'}
theorem qrt (b:Addr):X.away [] b=true:=rfl
theorem mem_e {h h':Heap} {a:Addr} {o:Obj} (D:X.Mem h h' [] [(a,o)]):(∀b o,h.get? b=some o→h'.get? b=some o)∧h.get? a=none∧h'.get? a=some o:=
 ⟨fun b o e=>D.keep b o e (by rw [qrt,Bool.or_true]),(D.nw _ (.head _)).2,(D.nw _ (.head _)).1⟩
section
variable {w:World} {A:Around}
local macro_rules | `(tactic|x_close)=> `(tactic|solve_by_elim)
theorem quq {s:Shared} {Q:Value→Shared→Prop} {b:Array UInt8} {t:Tok} (h: ∀a h',X.Mem s.heap h' [] [(a,{cls:= .type "bytearray",data:= .bytearray #[] 0})]→Q (.ref a) {s with heap:=h'}):
  wpAny (model prog w) A (call (.builtin "bytearray.__new__") [.type "bytearray",.bytes b t]) Q nE s:=by
 x_run
theorem qru {Q:Value→Shared→Prop} {s:Shared} {a:Addr} {b:Array UInt8} (h1:s.heap.get? a=some {cls:= .type "bytearray",data:= .bytearray b 0}) (hb:b.size≤64) (h: ∀k,Q (.bytes b s.toks) {s with toks:=k}):
  wpAny (model prog w) A (call (.type "bytes") [.ref a]) Q nE s:=by
 x_run
theorem qmh {Q:Value→Shared→Prop} {s:Shared} {b:Array UInt8} {t:Tok} (h: ∀k,Q (.bytes b t) {s with toks:=k}):
  wpAny (model prog w) A (call (.type "bytes") [.bytes b t]) Q nE s:=by
 x_run
theorem qhi:Slot "bytearray" "__len__" "bytearray.__len__" :=
 .of (owner:="bytearray") (n:="__len__") (by rw [typeLookup_type,builtinLookup_eq_fast];kernel_rfl) (by decide+kernel) (by decide+kernel) (by decide+kernel)
  (by first|exact .inl (by decide+kernel)|exact .inr (by decide+kernel)) (by rw [isSubtype_type];kernel_rfl)
theorem qkz:entryFor table "bytearray.__len__" =some Builtin.«bytearray.__len__» :=by first|exact entryFor_of_fast (by kernel_rfl)|exact entryFor_of_tree (by kernel_rfl)
theorem qmi (a:Value):argsOk "bytearray.__len__" ⟨[a],[]⟩:=by unfold argsOk;kernel_rfl
theorem qy9 {Q:Value→Shared→Prop} {s:Shared} {a:Addr} {b:Array UInt8} (h1:s.heap.get? a=some {cls:= .type "bytearray",data:= .bytearray b 0}) (hb:b.size≤64) (h: ∀k,Q (.int b.size (s.toks+1)) {s with toks:=k}):
  wpAny (model prog w) A (call (.builtin "len") [.ref a]) Q nE s:=by
 have hT:s.TypeIs (.ref a) "bytearray" :=⟨_,h1,rfl⟩
 refine call_function_entry kind_len plain_len entry_len (args_len1 _) ?_
 unfold Builtin.«len»;refine wpAny_bind (m:=oneArg "len" _) (wpAny_pure ?_)
 refine wpAny_bind (m:=callSpecial? (.ref a) (Str.ofString "__len__")) (wpAny_callSpecial?_slot (name:=Str.ofString "__len__") hT qhi
  (wpAny_call_entry qhi hT qkz ?_ (qmi _)))
 show wpAny _ _ (do retInt (←Bytes.payload (.ref a)).size) _ _ s
 unfold Bytes.payload Bytes.payload?;refine wpAny_bind (wpAny_bind (wpAny_bind (wpAny_load h1 ?_)))
 refine wpAny_pure (wpAny_pure (wpAny_bind (wpAny_mkInt (wpAny_pure ⟨_,rfl,?_⟩))))
 refine wpAny_bind (wpAny_holding (wpAny_pure ?_))
 refine wpAny_bind (wpAny_letGo ?_)
 show wpAny _ _ (if((b.size:Nat):Int)<0 then _ else _) _ _ _
 rw [if_neg (by lia)];show wpAny _ _ (if((b.size:Nat):Int)≥2^63 then _ else _) _ _ _
 rw [if_neg (by lia)];exact wpAny_bind (wpAny_mkInt (wpAny_pure ⟨_,rfl,h _⟩))
theorem qpm {Q:Value→Shared→Prop} {s:Shared} {n:Int} {t:Tok} (hb:n≤64) (h0:0≤n) (hz:(Array.replicate n.toNat (0:UInt8)).size≤64) (h: ∀k,Q (.bytes (Array.replicate n.toNat 0) s.toks) {s with toks:=k}):
  wpAny (model prog w) A (call (.type "bytes") [.int n t]) Q nE s:=by
 x_run
theorem qpn {Q:Value→Shared→Prop} {s:Shared} {b:Array UInt8} {t:Tok} (h: ∀k,Q (.bool false) {s with toks:=k}):
  wpAny (model prog w) A (call (.builtin "isinstance") [.bytes b t,.type "int"]) Q nE s:=by
 x_run
end
end Mine
end
noncomputable section
namespace Mine
open PySem PySem.Calls PyProof.Rows PySem.W
open Sem (wp)
section
variable {w:World} {A:Around} {s:Shared}
open Builtin
theorem qpo (a:Addr) {o:Obj} (ho:s.heap.get? a=some o) (hc:o.cls= .type "bytearray") {Q:Bool→Shared→Prop} (h:Q true s):wpAny (model prog w) A (isInstance (.ref a) (.type "bytearray")) Q nE s:=
 wpAny_isInstance (T:="bytearray") ⟨_,ho,hc⟩ qti h
theorem qhj {Q:Value→Shared→Prop} {b:Array UInt8} {t:Tok} (hg:A.guards=some []) (hz:b.size≤1000) (h:NewAt s {cls:= .type "bytearray",data:= .bytearray b 0} Q):
  qas (model prog w) A (call (.type "bytearray") [.bytes b t]) Q s:=by
 refine qgv (qc6 ?_)
 show qas _ _ (callAny (.type "bytearray") ⟨[.bytes b t],[]⟩) _ _
 refine qad ⟨Code.quiet_builtin _ (by decide+kernel),by show Bytes.decodersThatHold.contains "type.__call__" =false;decide+kernel,qev F.entry_type_call ?_⟩
 rw [Around.under_plain (weight_type_call_type "bytearray" [.bytes b t] []) (units_type_call_type "bytearray" [.bytes b t] [])];unfold Builtin.«type.__call__»;refine qbj (by decide+kernel) ?_
 refine qbj ba_called.canCreate ?_
 refine qab (qju (qmf _) ?_)
 refine qab (qju qpl ?_)
 refine qbj rfl ?_
 refine qab (qju ba_called.made ?_)
 refine qab (qad ?_)
 refine qab (qaw (qbu (quq fun a h' D=>?_)))
 refine qeg (mem_e D) fun hk hn ha=>?_
 refine qbc (qpo a ha rfl ?_)
 refine qbj rfl ?_
 refine qab (qaw ?_)
 unfold callSpecial?;have hT:({s with heap:=h'}:Shared).TypeIs (.ref a) "bytearray" :=⟨_,ha,rfl⟩
 refine qbc (wpAny_specialOf hT ba_slot_init.lookup ?_)
 dsimp only;refine qaw (qab (qju (ba_slot_init.bind _) ?_))
 refine qab (qup (by exact hg) hz ha fun h2 hs2 g2=>?_)
 refine qad (qad (h a h2 (fun c o e=>?_) hn g2))
 have hne:c≠a:=fun q=>by rw [q,hn]at e;cases e
 exact(hs2.2 c hne).trans (hk c o e)
end
end Mine
end
noncomputable section
namespace Mine
open PySem PySem.Calls PyProof.Rows PySem.W
open Sem (wp)
theorem ba_slot_setitem:Slot "bytearray" "__setitem__" "bytearray.__setitem__" :=
 .of (owner:="bytearray") (n:="__setitem__") (by rw [typeLookup_type,builtinLookup_eq_fast];kernel_rfl) (by decide+kernel) (by decide+kernel) (by decide+kernel)
  (by first|exact .inl (by decide+kernel)|exact .inr (by decide+kernel)) (by rw [isSubtype_type];kernel_rfl)
theorem qg0:entryFor table "bytearray.__setitem__" =some Builtin.«bytearray.__setitem__» :=by first|exact entryFor_of_fast (by kernel_rfl)|exact entryFor_of_tree (by kernel_rfl)
theorem qhk (a b c:Value):argsOk "bytearray.__setitem__" ⟨[a,b,c],[]⟩:=by unfold argsOk;kernel_rfl
theorem by_int:typeLookup (.type "bytes") "__int__" =pure none:=by rw [typeLookup_type,builtinLookup_eq_fast];kernel_rfl
theorem qrv:typeLookup (.type "bytes") "__float__" =pure none:=by rw [typeLookup_type,builtinLookup_eq_fast];kernel_rfl
theorem qih:isSubtype (.type "bytes") (.type "complex")=pure false:=by rw [isSubtype_type];kernel_rfl
theorem qpp:isSubtype (.type "bytes") (.type "bytearray")=pure false:=by rw [isSubtype_type];kernel_rfl
section
variable {w:World} {A:Around} {s:Shared}
open Builtin
theorem qfp {a:Addr} {l u:Value} {lo hi:Option Int} {Q:Value×Value×Value→Shared→Prop} (hs:s.heap.IsSliceOf a l u .none) (hl:IsPart l lo) (hu:IsPart u hi) (h:Q (rawPart lo,rawPart hi,rawPart none) s):
  wpAny (model prog w) A (Bytes.sliceParts (.ref a)) Q nE s:=by
 refine qao hs fun o ho hc hd=>?_
 unfold Bytes.sliceParts;refine wpAny_bind (wpAny_field (x:= .none) ho hd rfl ?_)
 kby_none
 refine wpAny_ite (KBy.ite_no (show ¬((Value.none==rawInt 0)=true)from Bool.false_ne_true) ?_)
 refine wpAny_bind (wpAny_field (x:=l) ho hd rfl ?_)
 cases hl<;>cases hu<;>(first
  |(kby_none;(refine wpAny_bind (wpAny_field (x:= .none) ho hd rfl ?_));kby_none)
  |(kby_none;(refine wpAny_bind (wpAny_field (x:= .int _ _) ho hd rfl ?_));kby_int)
  |(kby_int;(refine wpAny_bind (wpAny_field (x:= .none) ho hd rfl ?_));kby_none)
  |(kby_int;(refine wpAny_bind (wpAny_field (x:= .int _ _) ho hd rfl ?_));kby_int))<;>exact wpAny_pure h
theorem qix {a:Addr} {b:Array UInt8} {n:Nat} {o:Obj} {Q:Array UInt8→Shared→Prop} (ho:s.heap.get? a=some o) (hd:o.data= .bytearray b n) (h:Q b s):wpAny (model prog w) A (Bytes.payload (.ref a)) Q nE s:=by
 unfold Bytes.payload Bytes.payload?;refine wpAny_bind (wpAny_bind (wpAny_load ho ?_))
 rw [hd];exact wpAny_pure (wpAny_pure h)
theorem qn2 {a sl:Addr} {old b:Array UInt8} {t:Tok} {l u:Value} {lo hi:Option Int} {Q:Unit→Shared→Prop} (hg:A.guards=some []) (ho:s.heap.get? a=some {cls:= .type "bytearray",data:= .bytearray old 0})
  (hs:s.heap.IsSliceOf sl l u .none) (hl:IsPart l lo) (hu:IsPart u hi) (hz:b.size≤64) (hzo:old.size≤64)
  (hn:(b.size:Int)=max (sliceBounds lo hi none old.size).1 (sliceBounds lo hi none old.size).2.1- (sliceBounds lo hi none old.size).1) (h1:(sliceBounds lo hi none old.size).2.2=1)
  (h: ∀h' tk,(∀c o,c≠a→s.heap.get? c=some o→h'.get? c=some o)→
   h'.get? a=some {cls:= .type "bytearray",data:= .bytearray (old.extract 0 (sliceBounds lo hi none old.size).1.toNat++b++old.extract (max (sliceBounds lo hi none old.size).1 (sliceBounds lo hi none old.size).2.1).toNat old.size) 0}→Q () {s with heap:=h',toks:=tk}):
  qas (model prog w) A (setItem (.ref a) (.ref sl) (.bytes b t)) Q s:=by
 have hT:s.TypeIs (.ref a) "bytearray" :=⟨_,ho,rfl⟩
 refine qao (id hs) fun os hos hcs hds=>?_
 have hTs:s.TypeIs (.ref sl) "slice" :=⟨os,hos,hcs⟩
 unfold setItem;refine qaw (qbc (wpAny_sequenceKey hT (by decide) ?_))
 refine qab ?_
 unfold callSpecial?;refine qbc (wpAny_specialOf hT ba_slot_setitem.lookup ?_)
 dsimp only;refine qaw (qab (qju (ba_slot_setitem.bind _) ?_))
 refine qab (qgv (qc6 ?_))
 show qas _ A.in1 (do checkBuiltinCall "bytearray.__setitem__" ⟨[.ref a,.ref sl,.bytes b t],[]⟩;again (.builtin "bytearray.__setitem__" ⟨[.ref a,.ref sl,.bytes b t],[]⟩)) _ s
 refine qbc (ba_slot_setitem.check _ _ _ _ _ _ _ _ hT (qhk _ _ _) (qad ⟨plainId_quiet ba_slot_setitem.plain _,by show Bytes.decodersThatHold.contains "bytearray.__setitem__" =false;decide+kernel,qev qg0 ?_⟩))
 rw [Around.under_plainId ba_slot_setitem.plain];unfold Builtin.«bytearray.__setitem__»;refine qbj rfl ?_
 refine qab ?_
 unfold Bytes.subscript?;refine qbc (wpAny_specialOf hTs slice_no_index (qfo rfl (qad ?_)))
 refine qbc (wpAny_typeOf hTs ?_)
 refine qbj (by decide) ?_
 refine qbc (qfp hs hl hu ?_)
 refine qbj rfl (qbc (wpAny_isInstance (typeIs_bytes _ _ _) qpp ?_))
 refine qfo rfl ?_
 refine qab ?_
 unfold orM;refine qab (qab (qju (KBy.special_eq qnc) (qad ?_)))
 refine qab (qab (qju (KBy.special_eq by_int) (qad ?_)))
 refine qab (qab (qju (KBy.special_eq qrv) (qad ?_)))
 refine qbu (wpAny_isInstance (typeIs_bytes _ _ _) qih ?_)
 refine qab (qju (a:=none) rfl ?_)
 refine qbj rfl ?_
 refine qab (qiw (qab ?_))
 refine qhj (by exact hg) (by(with_reducible exact Nat.le_trans ‹_› (by decide))) fun c h' hk hnew hc=>?_
 have hs':({s with heap:=h'}:Shared).heap.IsSliceOf sl l u .none:=⟨os,hk _ _ hos,hcs,hds⟩
 refine qab (qaw (qbu (qfp hs' hl hu ?_)))
 refine qbc (qix hc rfl ?_)
 have ho':=hk _ _ ho
 refine qbc (qix ho' rfl ?_)
 refine qab (qju (sliceIndices_raw lo hi none old.size (fun e=>nomatch e)) ?_)
 rcases hb:sliceBounds lo hi none old.size with⟨st,sp,sx⟩
 rw [hb]at hn h1 h;dsimp only at hn h1 h;subst h1;refine qfo rfl (qab (qiw ?_))
 refine qbj (by rw [hn];simp) ?_
 have hca:a≠c:=fun q=>by rw [q,hnew]at ho;exact qa3 ho
 refine qbc (qjx ho' (by simp only [Array.size_append,Array.size_extract];exact oqe hz hzo) fun h2 hs2 g2=>?_)
 exact qad (qad (qad (h h2 _ (fun d o hd e=>(hs2.2 d hd).trans (hk d o e)) g2)))
end
end Mine
end
noncomputable section
namespace Mine
open PySem PySem.Calls PyProof.Rows PySem.W
open Sem (wp)
structure CF (K:Frag) (C:Addr):Prop where
 ga:findIn K (.ref C) "__getattribute__" =some (some (.builtin "object.__getattribute__"))
 gt:findIn K (.ref C) "__getattr__" =some none
 sa:findIn K (.ref C) "__setattr__" =some (some (.builtin "object.__setattr__"))
 po:plainOver K C=true
 fld: ∀x∈fieldNames,findIn K (.ref C) (Str.ofString x)=some none
 cd:(clsIn K C).any (·.hasDict)=true
section
variable {w:World} {S:qc5 prog w} {A:Around} {ρ:Rho} {σ σ':St} {s:Shared}
noncomputable abbrev FE (ρ:Rho) (k:Nat) (p:String×V) (e:DictEntry):Prop:=(∃t,e.key= .str (Str.ofString p.1) t)∧VR ρ k p.2 e.val
theorem qnd {x y:String} {t:Tok}:(Value.str (Str.ofString x) t).isStr (Str.ofString y)=decide (x=y):=by
 show(Str.ofString x==Str.ofString y)=_
 by_cases h:x=y
 ·subst h;simp
 ·have:Str.ofString x≠Str.ofString y:=fun e=>h (qbq e)
  simp [h,this]
theorem qpq {k:Nat} {fs:List (String×V)} {es:List DictEntry} (h:All2 (FE ρ k) fs es) (x:String):match qe7 x fs with|some v=> ∃e,es.find? (fun e=>e.key.isStr (Str.ofString x))=some e∧VR ρ k v e.val|none=>es.find? (fun e=>e.key.isStr (Str.ofString x))=none:=by
 induction h with
 |nil=>rfl
 | @cons p e fs es r _ ih=>
  refine qaj r.1 fun t ek=>?_
  rw [qeq];rw [List.find?_cons,ek,qnd];by_cases q:p.1=x
  ·rw [if_pos q];simp only [q,decide_true];exact⟨_,rfl,r.2⟩
  ·rw [if_neg q];simp only [q,decide_false];exact ih
theorem qtj {k:Nat} {fs:List (String×V)} {es:List DictEntry} (h:All2 (FE ρ k) fs es):es.any (·.refKey)=false:=by
 induction h with
 |nil=>rfl
 | @cons p e fs es r _ ih=>
  refine qaj r.1 fun t ek=>?_
  rw [List.any_cons,ih,Bool.or_false];unfold DictEntry.refKey;rw [ek]
theorem al_put {k:Nat} {x:String} {u:V} {z:Value} {hh:Int} {t:Tok} (hz:VR ρ k u z) {fs:List (String×V)} {es:List DictEntry} (h:All2 (FE ρ k) fs es):
  All2 (FE ρ k) (qfl x u fs) (match es.findIdx? (fun e=>e.key.isStr (Str.ofString x))with|some i=>es.modify i fun e=> {e with val:=z}|none=>es++ [⟨hh,.str (Str.ofString x) t,z⟩]):=by
 induction h with
 |nil=>exact .one ⟨⟨t,rfl⟩,hz⟩
 | @cons p e fs es r hr ih=>
  refine qaj r.1 fun t' ek=>?_
  rw [qgb];rw [List.findIdx?_cons,ek,qnd];by_cases q:p.1=x
  ·rw [if_pos q];simp only [q,decide_true,if_true];exact .cons ⟨⟨t',by rw [←q];exact ek⟩,hz⟩ hr
  ·rw [if_neg q];simp only [q,decide_false,Bool.false_eq_true,if_false];cases g:es.findIdx? (fun e=>e.key.isStr (Str.ofString x))with
   |none=>rw [g]at ih;exact .cons r ih
   |some i=>rw [g]at ih;exact .cons r ih
theorem qej {x:String} {u:V}: ∀{fs:List (String×V)},(qfl x u fs).length≤fs.length+1
 | []=>Nat.le_refl _
 |p::fs=>by
  rw [qgb];split
  ·exact Nat.le_succ _
  ·exact Nat.succ_le_succ (qej (fs:=fs))
theorem qhl {x:String} {u:V} (hx:x∈fieldNames): ∀{fs:List (String×V)},(∀p∈fs,p.1∈fieldNames)→ ∀p∈qfl x u fs,p.1∈fieldNames
 | [],_,p,hp=>by simp [qfl]at hp;subst hp;exact hx
 |q::fs,h,p,hp=>by
  rw [qgb]at hp;split at hp
  ·rename_i e
   rcases List.mem_cons.mp hp with rfl|hp
   ·exact e ▸ hx
   ·exact h p (.tail _ hp)
  ·rcases List.mem_cons.mp hp with rfl|hp
   ·exact h _ (.head _)
   ·exact qhl hx (fun p hp=>h p (.tail _ hp)) p hp
theorem put_at {cls:Value} {d:Option Addr} {es:Array DictEntry} {n:Nat} {sl:Array (Option Value)} {name:Str} {hh:Int} {key z:Value}:
  ∃n',Obj.putName name hh key z ⟨cls,d,.dict es n,sl⟩=⟨cls,d,.dict (match es.toList.findIdx? (fun(e:DictEntry)=>e.key.isStr name)with|some i=>es.toList.modify i fun(e:DictEntry)=> {e with val:=z}|none=>es.toList++ [DictEntry.mk hh key z]).toArray n',sl⟩:=by
 rw [Obj.putName_eq];unfold Obj.putNameByArray;dsimp only;have e:es.findIdx? (fun(e:DictEntry)=>e.key.isStr name)=es.toList.findIdx? (fun(e:DictEntry)=>e.key.isStr name):=by obtain⟨l⟩:=es;simp
 rw [e];cases g:es.toList.findIdx? (·.key.isStr name)with
 |none=>exact⟨n+1,by show Obj.mk _ _ (.dict (es.push _) _) _=Obj.mk _ _ (.dict _ _) _;congr 2;apply Array.toList_inj.mp;simp⟩
 |some i=>exact⟨n,by show Obj.mk _ _ (.dict (es.modify i _) _) _=Obj.mk _ _ (.dict _ _) _;congr 2;apply Array.toList_inj.mp;simp⟩
theorem Rel.inst {c:Cls} {n:Nat} {fs:List (String×V)} (R:Rel S ρ σ s) (e:σ.heap (.inst c n)=some (.inst fs)):
  s.heap.get? (ρ (.inst c n))=some (instObj (S.cA c) (ρ (.idict c n)))∧ ∃es ep,s.heap.get? (ρ (.idict c n))=some {cls:= .type "dict",data:= .dict es ep}∧All2 (FE ρ σ.next) fs es.toList∧fs.length≤1000∧ ∀p∈fs,p.1∈fieldNames:=R.obj _ _ e
theorem qhm {c:Cls} {n:Nat} {o:Obj} {h:Heap} (a:h.get? (ρ (.inst c n))=some (instObj (S.cA c) (ρ (.idict c n)))) (b:h.get? (ρ (.idict c n))=some o):InstAt h (ρ (.inst c n)) (instObj (S.cA c) (ρ (.idict c n))) (S.cA c) (some o):=
 ⟨a,rfl,rfl,b⟩
theorem Rel.X (R:Rel S ρ σ s):S.K.In s.heap:=S.X.keeps R.base
theorem VR.handed {k:Nat} {v:V} {y:Value} (h:VR ρ k v y):handedIn y=true:=by
 cases v<;>first|(cases h;rfl)|(obtain⟨_,rfl⟩:=h;rfl)
set_option tactic.hygienic true in
theorem qpr {v u:V} {x:String} {y:Value} {expr:Bool} (F: ∀c,CF S.K (S.cA c)) (R:Rel S ρ σ s) (hv:VR ρ σ.next v y) (h:qid v x σ=some u):
  wpAny (model prog w) A (getAttr y (Str.ofString x) expr) (PV S ρ σ s u σ) nE s:=by
 unfold qid at h;split at h
 ·rename_i c n
  refine qa1 hv fun _ e5_1=>?_;subst e5_1
  split at h
  ·rename_i fs e
   obtain⟨a,es,ep,b,r,hlen,hn⟩:=R.inst e
   have g:=qpq r x
   rw [h]at g;refine qac g fun en hf hr=>?_
   have hx:x∈fieldNames:=by
    clear b a e hf hr hlen;generalize es.toList=el at r
    induction r with
    |nil=>exact qa3 h
    | @cons p e fs es r _ ih=>
     rw [qeq]at h;by_cases q:p.1=x
     ·rw [←q];exact hn _ (.head _)
     ·rw [if_neg q]at h;exact ih h (fun p hp=>hn p (.tail _ hp))
   refine qac (any_some (F c).cd) fun cd hcd hd=>?_
   refine get_value R.X (qhm a b) (F c).ga ?_ hr.handed (.tok R hr)
   unfold findObj;rw [hcd];simp only [Option.bind_some,(F c).fld x hx];unfold W.ownOf lookIn;simp only [hd,if_true,hf,Option.bind_some]
  ·exact qa3 h
 ·exact qa3 h
set_option tactic.hygienic true in
theorem qiy {v u:V} {x:String} {y z:Value} (F: ∀c,CF S.K (S.cA c)) (R:Rel S ρ σ s) (hv:VR ρ σ.next v y) (hu:VR ρ σ.next u z) (h:qda v x u σ=some σ'):
  wpAny (model prog w) A (setAttr y (Str.ofString x) z) (fun _=>PU S ρ σ s σ') nE s:=by
 unfold qda at h;split at h
 ·rename_i c n
  refine qa1 hv fun _ e9_1=>?_;subst e9_1
  split at h
  ·rename_i fs e
   split at h<;>cases h
   rename_i hc
   obtain⟨a,es,ep,b,r,hl,hn⟩:=R.inst e
   refine qac (any_some (F c).cd) fun cd hcd hd=>?_
   have I:=qhm a b
   refine set_plain R.X I (F c).sa (osa_open (r:=none) R.X I (F c).po (by unfold takerIn;rw [(F c).fld x hc.1];rfl) fun bb=>?_)
   have X:=R.X
   refine wpAny_bind (wpAny_pure (wpAny_bind (wpAny_bind (wpAny_loadPart a (wpAny_bind ((show Looks (model prog w) ({s with toks:=s.toks+1}:Shared).heap _ _ from looks_clsIn X hcd).here ?_))))))
   rw [hd];refine wpAny_pure (a:=some (ρ (.idict c n))) (wpAny_bind (wpAny_pure (wpAny_bind ?_)))
   unfold nsSet;refine wpAny_bind (wpAny_bind (wpAny_askSetting (wpAny_pure (wpAny_bind (wpAny_mkText (wpAny_bind (wpAny_loadPart b ?_)))))))
   dsimp only;rw [aRefKeyMayBeTheName_at,←Array.any_toList,←Array.any_toList,qtj r,Bool.and_false,if_neg Bool.false_ne_true];refine wpAny_updatePart b ?_
   refine qaj (put_at (cls:= .type "dict") (d:=none) (es:=es) (n:=ep) (sl:= #[]) (name:=Str.ofString x) (hh:=PyData.keyHash w.params (Str.ofString x)) (key:= .str (Str.ofString x) (s.toks+1)) (z:=z)) fun n' hp=>?_
   have g:=Heap.get?_update_self (Obj.putName (Str.ofString x) (PyData.keyHash w.params (Str.ofString x)) (.str (Str.ofString x) (s.toks+1)) z) b (by rw [hp];rfl)
   rw [hp]at g;have A2:=al_put (hh:=PyData.keyHash w.params (Str.ofString x)) (t:=s.toks+1) (x:=x) hu r
   refine wpAny_bind (wpAny_lookBehind g ?_ ?_)
   ·refine pastItsLine_dict ?_
    rw [List.size_toArray,←A2.length,sizeLine_eq];have:=qej (x:=x) (u:=u) (fs:=fs)
    lia
   ·refine wpAny_pure ⟨ρ,Post.store R e (lc:= .idict c n) (by simp [qal]) (by intro q;cases q) (Heap.SameBut.update ..) ⟨?_,_,_,g,by simpa using A2,?_,qhl hc.1 hn⟩⟩
    ·have:ρ (.inst c n)≠ρ (.idict c n):=fun q=>by
      have:=R.inj (.inst c n) (.idict c n) (by simp [qdw,e]) (by simp [qdw,e]) q
      cases this
     exact(Heap.get?_update_ne _ _ _ _ this).trans a
    ·have:=qej (x:=x) (u:=u) (fs:=fs)
     lia
  ·exact qa3 h
 ·exact qa3 h
end
end Mine
end
noncomputable section
namespace Mine
open PySem PySem.Calls PyProof.Rows PySem.W
open Sem (wp)
structure BudC (A:Around) (d:Nat):Prop where
 hd:A.handled=none
 gd:A.guards=some []
 dep:A.depth+5*d≤990
 un:A.units+30*d≤9700
structure Bud (A:Around) (d:Nat):Prop where
 hd:A.handled=none
 gd:A.guards=some []
 dep:A.depth+5*d+4≤990
 un:A.units+30*d+20≤9700
theorem Bud.u {A:Around} {d:Nat} (b:Bud A d):A.units<cLine:=by
 have:=b.un
 exact Nat.lt_of_le_of_lt (oq2 (oq2 this)) (show 9700<cLine by decide)
structure PF {w:World} (S:qc5 prog w) (P:Fn→Option Def) where
 mg:Str→Option Value
 mb:Str→Option Value
 fA:Fn→Addr
 hg:S.B.Ns mainGlobals mg
 hb:S.B.Ns builtinsNs mb
 lim:S.B.NoLimit
 cf: ∀c,CF S.K (S.cA c)
 fname: ∀x∈funNames,mg (Str.ofString x)=some (.ref (fA (.f x)))
 cname: ∀c,mg (Str.ofString (qdv c))=some (.ref (S.cA c))
 bname: ∀x v,(x,v)∈([("len",.builtin "len"),("bytes",.type "bytes"),("bytearray",.type "bytearray"),("list",.type "list"),("dict",.type "dict"),("sorted",.builtin "sorted"),("range",.type "range"),
  ("reversed",.type "reversed"),("enumerate",.type "enumerate"),("isinstance",.builtin "isinstance"),("int",.type "int")]:List (String×Value))→mg (Str.ofString x)=none∧mb (Str.ofString x)=some v
 cmp: ∀c,CmpCls S.B (S.cA c)
 makes: ∀c,makesIn S.K (S.cA c)=true
 meth: ∀c x,P (.m c x)≠none→findIn S.K (.ref (S.cA c)) (Str.ofString x)=some (some (.ref (fA (.m c x))))∧typeIn S.K (.ref (fA (.m c x)))=some (.type "function")∧x∉fieldNames
 isFn: ∀f,P f≠none→ ∃o fd,S.B.get? (fA f)=some o∧o.data= .func fd
section
variable {w:World} {S:qc5 prog w} {P:Fn→Option Def} (F:PF S P) (C:Calls) (d:Nat)
noncomputable def qc7:Prop:= ∀f vs σ v σ',C f vs σ=some (v,σ')→P f≠none∧ ∀A ρ s ys,BudC A d→Rel S ρ σ s→All2 (VR ρ σ.next) vs ys→
 qci (model prog w) A (.call (.ref (F.fA f)) ⟨ys,[]⟩) (fun r s'=> ∃y,r= .ok (.ret y)∧PV S ρ σ s v σ' y s') s
noncomputable def PVs (S:qc5 prog w) (ρ:Rho) (σ:St) (s:Shared) (vs:List V) (σ':St) (ys:List Value) (s':Shared):Prop:= ∃ρ',Post S noF ρ σ s ρ' σ' s'∧All2 (VR ρ' σ'.next) vs ys
structure In_ (S:qc5 prog w) (d:Nat) (A:Around) (sc:Scope) (env:Env) (l:Locs) (ρ:Rho) (σ:St) (s:Shared):Prop where
 b:Bud A d
 e:EnvFor sc env
 r:Rel S ρ σ s
 f:FR S ρ σ env l s.heap
noncomputable def qb1 (sc:Scope) (e:PySem.Expr) (m:ME):Prop:= ∀A env l ρ σ s v σ',In_ S d A sc env l ρ σ s→evE C l m σ=some (v,σ')→qas (model prog w) A (eval e env) (PV S ρ σ s v σ') s
noncomputable def qur (sc:Scope) (e:PySem.Expr) (m:ME):Prop:= ∀A env l ρ σ s b σ',In_ S d A sc env l ρ σ s→evE C l m σ=some (.bool b,σ')→qas (model prog w) A (isTrue e env (eval e env)) (fun r s'=>r=b∧PU S ρ σ s σ' s') s
noncomputable def EvsOK (sc:Scope) (es:List PySem.Expr) (ms:List ME):Prop:= ∀A env l ρ σ s vs σ',In_ S d A sc env l ρ σ s→qdc C l ms σ=some (vs,σ')→qas (model prog w) A (spliced (es.map fun e=>(false,eval e env))) (PVs S ρ σ s vs σ') s
variable {F C d} {sc:Scope} {A:Around} {env:Env} {l:Locs} {ρ ρ':Rho} {σ σ' σ₁:St} {s s' s₁:Shared}
theorem In_.post (i:In_ S d A sc env l ρ σ s) (p:Post S noF ρ σ s ρ' σ' s'):In_ S d A sc env l ρ' σ' s':=⟨i.b,i.e,p.rel,i.f.post p qfn⟩
theorem qgh {t:Sem Value} {f:Value→Sem Value} {v u:V} (h:qas (model prog w) A t (PV S ρ σ s v σ₁) s)
  (k: ∀ρ₁ s₁ y,Post S noF ρ σ s ρ₁ σ₁ s₁→VR ρ₁ σ₁.next v y→qas (model prog w) A (f y) (PV S ρ₁ σ₁ s₁ u σ') s₁):qas (model prog w) A (t>>=f) (PV S ρ σ s u σ') s:=
 qab (k_mono h fun y s₁ ⟨ρ₁,p,hv⟩=>k_mono (k ρ₁ s₁ y p hv) fun z s₂ ⟨ρ₂,p₂,hv₂⟩=>⟨ρ₂,p.trans p₂,hv₂⟩)
theorem PV.after {v:V} {σ₂:St} {y:Value} {s₂:Shared} (p:Post S noF ρ σ s ρ' σ₁ s₁) (h:PV S ρ' σ₁ s₁ v σ₂ y s₂):PV S ρ σ s v σ₂ y s₂:=let⟨ρ₂,p₂,hv⟩:=h;⟨ρ₂,p.trans p₂,hv⟩
theorem PU.after {σ₂:St} {s₂:Shared} (p:Post S noF ρ σ s ρ' σ₁ s₁) (h:PU S ρ' σ₁ s₁ σ₂ s₂):PU S ρ σ s σ₂ s₂:=let⟨ρ₂,p₂⟩:=h;⟨ρ₂,p.trans p₂⟩
theorem ev_int {i:Int} {kd:Nat} {pos:Pos}:qb1 (S:=S) C d sc (.Constant (.int i) kd pos) (.int i):=fun A env l ρ σ s v σ' I h=>by
 refine qcs h ?_
 exact qbu (wpAny_Constant_int (.int I.r))
theorem qus {kd:Nat} {pos:Pos}:qb1 (S:=S) C d sc (.Constant .none kd pos) .none:=fun A env l ρ σ s v σ' I h=>by
 refine qcs h ?_
 exact qad (.here I.r rfl)
theorem qut {b:Bool} {kd:Nat} {pos:Pos}:qb1 (S:=S) C d sc (.Constant (.bool b) kd pos) (.bool b):=fun A env l ρ σ s v σ' I h=>by
 refine qcs h ?_
 exact qad (.here I.r rfl)
theorem ev_str {x:String} {kd:Nat} {pos:Pos}:qb1 (S:=S) C d sc (.Constant (.str (Str.ofString x)) kd pos) (.str x):=fun A env l ρ σ s v σ' I h=>by
 refine qcs h ?_
 exact qbu (Constant_str (.tok I.r ⟨_,rfl⟩))
theorem qn3 {x:Str} (e:EnvFor sc env) (h:qrp sc x=true):env.kindOf x=some .local∨env.kindOf x=some .cell∨env.kindOf x=some .free:=by
 unfold qrp at h;split at h
 ·rename_i q;exact .inl (e.loc _ q)
 ·rename_i q;exact .inr (.inl (e.cell _ q))
 ·rename_i q;exact .inr (e.free _ q)
 ·cases h
theorem quu {x:String} {pos:Pos} (hx:qrp sc (Str.ofString x)=true) (hd:(Str.ofString x==("__debug__" :Str))=false) (hcd:(Str.ofString x==("__classdict__" :Str))=false):qb1 (S:=S) C d sc (.Name (Str.ofString x) pos) (.var x):=fun A env l ρ σ s v σ' I h=>by
 rw [qyo]at h;cases q:l x with
 |none=>rw [q]at h;exact qa3 h
 |some u=>
  rw [q]at h;simp only [qrf,Option.some.injEq,Prod.mk.injEq]at h;refine qa1 h fun e4_0 e4_1=>?_;subst e4_0;subst e4_1
  refine qbu (wpAny_Name ?_ hd)
  rcases qn3 I.e hx with hk|hk|hk
  ·refine qac I.f.ns fun m hm km=>?_
   refine qac (km x u q hk) fun y hy hv=>?_
   exact wpAny_loadName_local I.e.kind hk hm hy (.here I.r hv)
  ·refine qfj (I.f.cel x u q (.inl hk)) fun c y hc hi hv=>?_
   exact wpAny_loadName_cell I.e.kind hk hc hi (.here I.r hv)
  ·refine qfj (I.f.cel x u q (.inr hk)) fun c y hc hi hv=>?_
   exact wpAny_loadName_free I.e.kind hk hc hi (.here I.r hv) hcd
end
end Mine
end
noncomputable section
namespace Mine
open PySem PySem.Calls PyProof.Rows PySem.W
open Sem (wp)
theorem bind_some {α β:Type} {m:Option (α×St)} {f:α→St→Option (β×St)} {r:β×St} (h:bind m f=some r) {GG:Prop} (kk: ∀a σ,m=some (a,σ)→f a σ=some r→GG):GG:=by
 cases m with
 |none=>exact qa3 h
 |some x=>exact kk x.1 x.2 rfl h
section
variable {w:World} {S:qc5 prog w} {P:Fn→Option Def} {F:PF S P} {C:Calls} {d:Nat}
variable {sc:Scope} {A:Around} {env:Env} {l:Locs} {ρ ρ':Rho} {σ σ' σ₁:St} {s s' s₁:Shared} {e i a b c:PySem.Expr} {m mi ma mb mc:ME} {x:String} {pos:Pos}
theorem quv (F:PF S P) (he:qb1 (S:=S) C d sc e m) (hb: ∀env,attributeBase e (Str.ofString x) env (eval e env)=eval e env):qb1 (S:=S) C d sc (.Attribute e (Str.ofString x) pos) (.attr m x):=fun A env l ρ σ s v σ' I h=>by
 refine qaq h fun u σ₁ h1 h=>?_
 refine qs9 h fun u' h2 h=>?_
 first|refine qcs h ?_|cases h
 rw [arm_eval_Attribute,hb];refine qgh (he A env l ρ σ s u _ I h1) fun ρ₁ s₁ y p hv=>qab (qcu (qab (qaw (qbu (wpAny_mono (qpr F.cf p.rel hv h2) (fun r s₂ hr=>qbc (wpAny_letTemporaryGo (qad hr))) fun _ _ z=>z)))))
theorem two {u v z:V} {σ₂:St} (I:In_ S d A sc env l ρ σ s) (ha:qb1 (S:=S) C d sc a ma) (hb:qb1 (S:=S) C d sc b mb) (h1:evE C l ma σ=some (u,σ₁)) (h2:evE C l mb σ₁=some (v,σ₂))
  {f:Value→Value→Sem Value} (k: ∀ρ₂ s₂ x y,Rel S ρ₂ σ₂ s₂→VR ρ₂ σ₂.next u x→VR ρ₂ σ₂.next v y→qas (model prog w) A (f x y) (PV S ρ₂ σ₂ s₂ z σ') s₂):
  qas (model prog w) A (do let x ←eval a env;let y ←holding [x] (eval b env);f x y) (PV S ρ σ s z σ') s:=
 qgh (ha A env l ρ σ s u _ I h1) fun ρ₁ s₁ x p hx=>qgh (qaw (hb A env l ρ₁ σ₁ s₁ v _ (I.post p) h2)) fun ρ₂ s₂ y p₂ hy=>k ρ₂ s₂ x y p₂.rel (hx.mono p₂.agree p₂.le) hy
theorem quw (ha:qb1 (S:=S) C d sc a ma) (hb:qb1 (S:=S) C d sc b mb):qb1 (S:=S) C d sc (.Subscript a b pos) (.item ma mb):=fun A env l ρ σ s v σ' I h=>by
 refine qaq h fun u σ₁ h1 h=>?_
 refine qaq h fun k σ₂ h2 h=>?_
 refine qs9 h fun r h3 h=>?_
 first|refine qcs h ?_|cases h
 rw [arm_eval_Subscript];exact two I ha hb h1 h2 fun ρ₂ s₂ x y R hx hy=>qbu (qpf (qpg R hx hy h3))
theorem ev_bin {op:Op} {o:Operator} (ho:cOp o=some op) (ha:qb1 (S:=S) C d sc a ma) (hb:qb1 (S:=S) C d sc b mb):qb1 (S:=S) C d sc (.BinOp a o b pos) (.bin op ma mb):=fun A env l ρ σ s v σ' I h=>by
 refine qaq h fun u σ₁ h1 h=>?_
 refine qaq h fun k σ₂ h2 h=>?_
 rw [arm_eval_BinOp];have eo:o=opT op:=qpd ho
 subst eo;exact two I ha hb h1 h2 fun ρ₂ s₂ x y R hx hy=>qab (qcu (qhh (qbu (qyy R hx hy h))))
theorem ev_neg (ha:qb1 (S:=S) C d sc a ma):qb1 (S:=S) C d sc (.UnaryOp .USub a pos) (.neg ma):=fun A env l ρ σ s v σ' I h=>by
 refine qaq h fun u σ₁ h1 h=>?_
 cases u<;>simp only [Option.some.injEq,Prod.mk.injEq,reduceCtorEq]at h
 refine qa1 h fun e0_0 e0_1=>?_;subst e0_0;subst e0_1
 rw [arm_eval_UnaryOp];refine qgh (ha A env l ρ σ s _ _ I h1) fun ρ₁ s₁ y p hy=>?_
 refine qaj hy fun t e1_1=>?_;subst e1_1
 exact qab (qcu (qaw (qbu (P.neg_int (.int p.rel)))))
theorem qiz {op:Cmp} {u v:V} {r:Bool} {x y:Value} (R:Rel S ρ σ s) (hx:VR ρ σ.next u x) (hy:VR ρ σ.next v y) (hu:A.units<cLine) (h:qib op u v σ=some r):
  wpAny (model prog w) A (compareOp (cmpT op) x y) (PV S ρ σ s (.bool r) σ) nE s:=by
 cases op<;>simp only [qib]at h
 ·exact(qy1 R hx hy hu h).1
 ·refine qac (Option.map_eq_some_iff.mp h) fun r' h' e2_2=>?_;subst e2_2;exact(qy1 R hx hy hu h').2
 all_goals try (split at h<;>simp only [Option.some.injEq,reduceCtorEq]at h;refine qaj hx fun t e3_1=>?_;subst e3_1;refine qaj hy fun t' e4_1=>?_;subst e4_1;subst h)
 ·exact P.lt_int (.b R rfl)
 ·exact P.le_int (.b R rfl)
 ·exact P.gt_int (.b R rfl)
 ·exact P.ge_int (.b R rfl)
 ·exact(qy3 R hx hy h).1
 ·refine qac (Option.map_eq_some_iff.mp h) fun r' h' e5_2=>?_;subst e5_2;exact(qy3 R hx hy h').2
 ·exact(qy2 R hx hy h).1
 ·refine qac (Option.map_eq_some_iff.mp h) fun r' h' e6_2=>?_;subst e6_2;exact(qy2 R hx hy h').2
theorem qgi (o:CmpOp):cmpT (qrg o)=o:=by cases o<;>rfl
theorem qdm {b:Bool} {y:Value} {Q:Bool→Shared→Prop} (hy:VR ρ σ.next (.bool b) y) (h:Q b s):qas (model prog w) A (truthy y) Q s:=by
 cases hy;exact qbu (wpAny_truthy_bool h)
theorem qfq {op:CmpOp} (hb: ∀es k p,b≠ .Set es k p):behindInMarks op b=false:=by
 unfold behindInMarks;split
 ·exact absurd rfl (hb _ _ _)
 ·rfl
theorem ev_cmp {o:CmpOp} (hs: ∀es k p,b≠ .Set es k p) (ha:qb1 (S:=S) C d sc a ma) (hb:qb1 (S:=S) C d sc b mb):qb1 (S:=S) C d sc (.Compare a [o] [b] pos) (.cmp (qrg o) ma mb):=fun A env l ρ σ s v σ' I h=>by
 refine qaq h fun u σ₁ h1 h=>?_
 refine qaq h fun k σ₂ h2 h=>?_
 refine qeu h fun r h3 h=>?_
 first|refine qcs h ?_|cases h
 rw [eval_Compare1,markedBehindIn_of_false (qfq hs)];exact two I ha hb h1 h2 fun ρ₂ s₂ x y R hx hy=>qab (qcu (qhh (qbu (qgi o ▸ qiz R hx hy I.b.u h3))))
theorem ts_cmp {o:CmpOp} (hs: ∀es k p,b≠ .Set es k p) (ha:qb1 (S:=S) C d sc a ma) (hb:qb1 (S:=S) C d sc b mb):qur (S:=S) C d sc (.Compare a [o] [b] pos) (.cmp (qrg o) ma mb):=fun A env l ρ σ s v σ' I h=>by
 refine qaq h fun u σ₁ h1 h=>?_
 refine qaq h fun k σ₂ h2 h=>?_
 refine qeu h fun r h3 h=>?_
 cases h
 rw [isTrue_Compare1,markedBehindIn_of_false (qfq hs)];refine qd1 (ha A env l ρ σ s _ _ I h1) fun x s₁ ρ₁ p₁ hx=>?_
 refine qe3 (hb A env l ρ₁ σ₁ s₁ _ _ (I.post p₁) h2) fun y s₂ ρ₂ p₂ hy=>?_
 refine qab (qcu (qab (qhh (qd6 (qbu (qgi o ▸ qiz p₂.rel (hx.mono p₂.agree p₂.le) hy I.b.u h3)) fun z s₃ ρ₃ p₃ hz=>?_))))
 exact qaw (qdm hz ⟨rfl,ρ₃,(p₁.trans p₂).trans p₃⟩)
theorem qrw (he:qb1 (S:=S) C d sc e m) (hi: ∀env whole,isTrue e env whole=(do let v ←whole;standAt e.pos;holding [v] (truthy v))):qur (S:=S) C d sc e m:=fun A env l ρ σ s b σ' I h=>by
 rw [hi];exact qd1 (he A env l ρ σ s _ _ I h) fun y s₁ ρ₁ p₁ hy=>qab (qcu (qaw (qdm hy ⟨rfl,ρ₁,p₁⟩)))
theorem ts_not (ha:qur (S:=S) C d sc a ma):qur (S:=S) C d sc (.UnaryOp .Not a pos) (.not ma):=fun A env l ρ σ s b σ' I h=>by
 refine qaq h fun u σ₁ h1 h=>?_
 refine qif h fun r eb h=>?_;subst eb
 cases h
 rw [arm_isTrue_UnaryOp];exact qab (k_mono (ha A env l ρ σ s _ _ I h1) fun y s₁ ⟨e,p⟩=>qad ⟨by rw [e],p⟩)
end
end Mine
end
noncomputable section
namespace Mine
open PySem PySem.Calls PyProof.Rows PySem.W
open Sem (wp)
section
variable {w:World} {S:qc5 prog w} {P:Fn→Option Def} {F:PF S P} {C:Calls} {d:Nat}
variable {sc:Scope} {A:Around} {env:Env} {l:Locs} {ρ ρ':Rho} {σ σ' σ₁:St} {s s' s₁:Shared} {e i a b c:PySem.Expr} {m mi ma mb mc:ME} {x:String} {pos:Pos}
structure OK (S:qc5 prog w) (C:Calls) (d:Nat) (sc:Scope) (e:PySem.Expr) (m:ME):Prop where
 ev:qb1 (S:=S) C d sc e m
 ts:qur (S:=S) C d sc e m
 noSet: ∀es k p,e≠ .Set es k p
 noStar: ∀x p,e≠ .Starred x p
theorem ev_not (ha:qb1 (S:=S) C d sc a ma):qb1 (S:=S) C d sc (.UnaryOp .Not a pos) (.not ma):=fun A env l ρ σ s v σ' I h=>by
 refine qaq h fun u σ₁ h1 h=>?_
 refine qif h fun r eb h=>?_;subst eb
 first|refine qcs h ?_|cases h
 rw [arm_eval_UnaryOp];refine qgh (ha A env l ρ σ s _ _ I h1) fun ρ₁ s₁ y p hy=>qab (qcu (qaw ?_))
 unfold unaryOp;refine qaw ?_
 show qas _ _ (truthy y>>=fun t=>pure (Value.bool !t)) _ _
 exact qab (qdm hy (qad (PV.b p.rel rfl)))
theorem qrx {o₁ o₂:CmpOp} (ha:OK S C d sc a ma) (hb:OK S C d sc b mb) (hc:OK S C d sc c mc):qb1 (S:=S) C d sc (.Compare a [o₁,o₂] [b,c] pos) (.chain ma (qrg o₁) mb (qrg o₂) mc):=fun A env l ρ σ s v σ' I h=>by
 refine qaq h fun u σ₁ h1 h=>?_
 refine qaq h fun k σ₂ h2 h=>?_
 refine qeu h fun r h3 h=>?_
 have hm:lastMarks [o₁,o₂] [b,c]=false:=qfq hc.noSet
 show qas _ _ (do compareChain pos (←eval a env) [o₁,o₂] (markedEach [o₁,o₂] [b,c] [eval b env,eval c env])) _ _
 rw [markedEach_of_false _ _ _ hm];refine qgh (ha.ev A env l ρ σ s _ _ I h1) fun ρ₁ s₁ x p₁ hx=>?_
 show qas _ _ (do
  let rv ←holding [x] (eval b env)
  standAt pos
  let cc ←holding [x,rv] (compareOp o₁ x rv)
  release [x,rv] [cc]
  if ←holding [cc,rv] (truthy cc)then compareChain pos rv [o₂] [eval c env]else pure cc) _ _
 refine qgh (qaw (hb.ev A env l ρ₁ σ₁ s₁ _ _ (I.post p₁) h2)) fun ρ₂ s₂ y p₂ hy=>qab (qcu ?_)
 have hx':=hx.mono p₂.agree p₂.le
 refine qgh (qaw (qbu (qgi o₁ ▸ qiz p₂.rel hx' hy I.b.u h3))) fun ρ₃ s₃ z p₃ hz=>qab (qkw (qab (qaw (qdm hz ?_))))
 cases r with
 |false=>
  first|refine qcs h ?_|cases h
  simp only [Bool.false_eq_true,if_false];exact qad (.here p₃.rel hz)
 |true=>
  refine qaq h fun k3 σ₃ h4 h=>?_
  refine qeu h fun r2 h5 h=>?_
  first|refine qcs h ?_|cases h
  simp only [if_true];show qas _ _ (do
   let rv ←holding [y] (eval c env)
   standAt pos
   operate [y,rv] (compareOp o₂ y rv)) _ _
  have I₃:=((I.post p₁).post p₂).post p₃
  refine qgh (qaw (hc.ev A env l ρ₃ _ s₃ _ _ I₃ h4)) fun ρ₄ s₄ q p₄ hq=>qab (qcu (qhh (qbu ?_)))
  exact qgi o₂ ▸ qiz p₄.rel ((hy.mono p₃.agree p₃.le).mono p₄.agree p₄.le) hq I.b.u h5
theorem qry {o₁ o₂:CmpOp} (ha:OK S C d sc a ma) (hb:OK S C d sc b mb) (hc:OK S C d sc c mc):qur (S:=S) C d sc (.Compare a [o₁,o₂] [b,c] pos) (.chain ma (qrg o₁) mb (qrg o₂) mc):=fun A env l ρ σ s v σ' I h=>by
 refine qaq h fun u σ₁ h1 h=>?_
 refine qaq h fun k σ₂ h2 h=>?_
 refine qeu h fun r h3 h=>?_
 have hm:lastMarks [o₁,o₂] [b,c]=false:=qfq hc.noSet
 show qas _ _ (do testChain pos (←eval a env) [o₁,o₂] (markedEach [o₁,o₂] [b,c] [eval b env,eval c env])) _ _
 rw [markedEach_of_false _ _ _ hm];refine qd1 (ha.ev A env l ρ σ s _ _ I h1) fun x s₁ ρ₁ p₁ hx=>?_
 show qas _ _ (do
  let rv ←holding [x] (eval b env)
  standAt pos
  let cc ←holding [x,rv] (compareOp o₁ x rv)
  release [x,rv] [cc]
  if ←holding [cc,rv] (truthy cc)then testChain pos rv [o₂] [eval c env]else pure false) _ _
 refine qd1 (qaw (hb.ev A env l ρ₁ σ₁ s₁ _ _ (I.post p₁) h2)) fun y s₂ ρ₂ p₂ hy=>qab (qcu ?_)
 have hx':=hx.mono p₂.agree p₂.le
 refine qd1 (qaw (qbu (qgi o₁ ▸ qiz p₂.rel hx' hy I.b.u h3))) fun z s₃ ρ₃ p₃ hz=>qab (qkw (qab (qaw (qdm hz ?_))))
 cases r with
 |false=>
  cases h
  simp only [Bool.false_eq_true,if_false];exact qad ⟨rfl,ρ₃,(p₁.trans p₂).trans p₃⟩
 |true=>
  refine qaq h fun k3 σ₃ h4 h=>?_
  refine qeu h fun r2 h5 h=>?_
  cases h
  simp only [if_true];show qas _ _ (do
   let rv ←holding [y] (eval c env)
   standAt pos
   let cc ←operate [y,rv] (compareOp o₂ y rv)
   holding [cc] (truthy cc)) _ _
  have I₃:=((I.post p₁).post p₂).post p₃
  refine qd1 (qaw (hc.ev A env l ρ₃ _ s₃ _ _ I₃ h4)) fun q s₄ ρ₄ p₄ hq=>qab (qcu (qab (qhh (k_mono (Q:=PV S ρ₄ σ' s₄ (.bool v) σ') (qbu ?_) fun zz s₅ hz5=>?_))))
  ·exact qgi o₂ ▸ qiz p₄.rel ((hy.mono p₃.agree p₃.le).mono p₄.agree p₄.le) hq I.b.u h5
  ·refine qac hz5 fun ρ₅ p₅ hzz=>?_
   exact qaw (qdm hzz ⟨rfl,ρ₅,(((p₁.trans p₂).trans p₃).trans p₄).trans p₅⟩)
set_option backward.match.sparseCases true in
theorem qtk: ∀{es:List PySem.Expr} {ms:List ME} {m:ME},All2 (OK S C d sc) es ms→qhe .and ms=some m→ ∀A env l ρ σ s v σ',In_ S d A sc env l ρ σ s→evE C l m σ=some (v,σ')→qas (model prog w) A (boolOp pos .And (evalEach es env)) (PV S ρ σ s v σ') s
 |_,_,_,.nil,hm,_,_,_,_,_,_,_,_,_,_=>by cases hm
 |_,_,m,.cons (xs:= []) h t,hm,A,env,l,ρ,σ,s,v,σ',I,hv=>by
  cases t
  cases hm
  exact h.ev A env l ρ σ s v σ' I hv
 |e₁::e₂::es,m₁::m₂::ms,m,.cons h t,hm,A,env,l,ρ,σ,s,v,σ',I,hv=>by
  refine qac (Option.map_eq_some_iff.mp (show(qhe .and (m₂::ms)).map (.and m₁)=some m from hm)) fun mr hr e1_2=>?_;subst e1_2
  refine qaq hv fun u σ₁ h1 hv=>?_
  refine qif hv fun r eb hv=>?_;subst eb
  show qas _ _ (do
   let v ←eval e₁ env
   standAt pos
   let t ←holding [v] (truthy v)
   match BoolOp.And,t with
   | .And,false| .Or,true=>pure v
   |_,_=>boolOp pos .And (eval e₂ env::evalEach es env)) _ _
  refine qgh (h.ev A env l ρ σ s _ _ I h1) fun ρ₁ s₁ y p hy=>qab (qcu (qab (qaw (qdm hy ?_))))
  cases r with
  |false=>cases hv;exact qad (.here p.rel hy)
  |true=>exact qtk t hr A env l ρ₁ σ₁ s₁ v σ' (I.post p) hv
set_option backward.match.sparseCases true in
theorem ev_or: ∀{es:List PySem.Expr} {ms:List ME} {m:ME},All2 (OK S C d sc) es ms→qhe .or ms=some m→ ∀A env l ρ σ s v σ',In_ S d A sc env l ρ σ s→evE C l m σ=some (v,σ')→qas (model prog w) A (boolOp pos .Or (evalEach es env)) (PV S ρ σ s v σ') s
 |_,_,_,.nil,hm,_,_,_,_,_,_,_,_,_,_=>by cases hm
 |_,_,m,.cons (xs:= []) h t,hm,A,env,l,ρ,σ,s,v,σ',I,hv=>by
  cases t
  cases hm
  exact h.ev A env l ρ σ s v σ' I hv
 |e₁::e₂::es,m₁::m₂::ms,m,.cons h t,hm,A,env,l,ρ,σ,s,v,σ',I,hv=>by
  refine qac (Option.map_eq_some_iff.mp (show(qhe .or (m₂::ms)).map (.or m₁)=some m from hm)) fun mr hr e2_2=>?_;subst e2_2
  refine qaq hv fun u σ₁ h1 hv=>?_
  refine qif hv fun r eb hv=>?_;subst eb
  show qas _ _ (do
   let v ←eval e₁ env
   standAt pos
   let t ←holding [v] (truthy v)
   match BoolOp.Or,t with
   | .And,false| .Or,true=>pure v
   |_,_=>boolOp pos .Or (eval e₂ env::evalEach es env)) _ _
  refine qgh (h.ev A env l ρ σ s _ _ I h1) fun ρ₁ s₁ y p hy=>qab (qcu (qab (qaw (qdm hy ?_))))
  cases r with
  |true=>cases hv;exact qad (.here p.rel hy)
  |false=>exact ev_or t hr A env l ρ₁ σ₁ s₁ v σ' (I.post p) hv
theorem qtl: ∀{es:List PySem.Expr} {ms:List ME} {m:ME},All2 (OK S C d sc) es ms→qhe .and ms=some m→ ∀A env l ρ σ s v σ',In_ S d A sc env l ρ σ s→evE C l m σ=some (.bool v,σ')→qas (model prog w) A (allTrue .And es env) (fun r s'=>r=v∧PU S ρ σ s σ' s') s
 |_,_,_,.nil,hm,_,_,_,_,_,_,_,_,_,_=>by cases hm
 |_,_,m,.cons (xs:= []) h t,hm,A,env,l,ρ,σ,s,v,σ',I,hv=>by
  cases t
  cases hm
  rw [arm_allTrue_cons];refine qab (k_mono (h.ts A env l ρ σ s v σ' I hv) fun r s₁ ⟨e,p⟩=>?_)
  subst e;cases r with
  |false=>exact qad ⟨rfl,p⟩
  |true=>exact qad ⟨rfl,p⟩
 |e₁::e₂::es,m₁::m₂::ms,m,.cons h t,hm,A,env,l,ρ,σ,s,v,σ',I,hv=>by
  refine qac (Option.map_eq_some_iff.mp (show(qhe .and (m₂::ms)).map (.and m₁)=some m from hm)) fun mr hr e3_2=>?_;subst e3_2
  refine qaq hv fun u σ₁ h1 hv=>?_
  refine qif hv fun r eb hv=>?_;subst eb
  rw [arm_allTrue_cons];refine qab (k_mono (h.ts A env l ρ σ s r _ I h1) fun r' s₁ ⟨e,ρ₁,p⟩=>?_)
  subst e;cases r' with
  |false=>cases hv;exact qad ⟨rfl,ρ₁,p⟩
  |true=>exact k_mono (qtl t hr A env l ρ₁ σ₁ s₁ v σ' (I.post p) hv) fun r s₂ ⟨e,q⟩=>⟨e,q.after p⟩
theorem ts_or: ∀{es:List PySem.Expr} {ms:List ME} {m:ME},All2 (OK S C d sc) es ms→qhe .or ms=some m→ ∀A env l ρ σ s v σ',In_ S d A sc env l ρ σ s→evE C l m σ=some (.bool v,σ')→qas (model prog w) A (allTrue .Or es env) (fun r s'=>r=v∧PU S ρ σ s σ' s') s
 |_,_,_,.nil,hm,_,_,_,_,_,_,_,_,_,_=>by cases hm
 |_,_,m,.cons (xs:= []) h t,hm,A,env,l,ρ,σ,s,v,σ',I,hv=>by
  cases t
  cases hm
  rw [arm_allTrue_cons];refine qab (k_mono (h.ts A env l ρ σ s v σ' I hv) fun r s₁ ⟨e,p⟩=>?_)
  subst e;cases r with
  |false=>exact qad ⟨rfl,p⟩
  |true=>exact qad ⟨rfl,p⟩
 |e₁::e₂::es,m₁::m₂::ms,m,.cons h t,hm,A,env,l,ρ,σ,s,v,σ',I,hv=>by
  refine qac (Option.map_eq_some_iff.mp (show(qhe .or (m₂::ms)).map (.or m₁)=some m from hm)) fun mr hr e4_2=>?_;subst e4_2
  refine qaq hv fun u σ₁ h1 hv=>?_
  refine qif hv fun r eb hv=>?_;subst eb
  rw [arm_allTrue_cons];refine qab (k_mono (h.ts A env l ρ σ s r _ I h1) fun r' s₁ ⟨e,ρ₁,p⟩=>?_)
  subst e;cases r' with
  |true=>cases hv;exact qad ⟨rfl,ρ₁,p⟩
  |false=>exact k_mono (ts_or t hr A env l ρ₁ σ₁ s₁ v σ' (I.post p) hv) fun r s₂ ⟨e,q⟩=>⟨e,q.after p⟩
theorem ev_ite (hc:OK S C d sc c mc) (ha:OK S C d sc a ma) (hb:OK S C d sc b mb):qb1 (S:=S) C d sc (.IfExp c a b pos) (.ite mc ma mb):=fun A env l ρ σ s v σ' I h=>by
 refine qaq h fun u σ₁ h1 h=>?_
 refine qif h fun r eb h=>?_;subst eb
 rw [arm_eval_IfExp];refine qab (k_mono (hc.ts A env l ρ σ s r _ I h1) fun r' s₁ ⟨e,ρ₁,p⟩=>?_)
 subst e;cases r' with
 |true=>exact k_mono (ha.ev A env l ρ₁ σ₁ s₁ v σ' (I.post p) h) fun y s₂ q=>q.after p
 |false=>exact k_mono (hb.ev A env l ρ₁ σ₁ s₁ v σ' (I.post p) h) fun y s₂ q=>q.after p
theorem ts_ite (hc:OK S C d sc c mc) (ha:OK S C d sc a ma) (hb:OK S C d sc b mb):qur (S:=S) C d sc (.IfExp c a b pos) (.ite mc ma mb):=fun A env l ρ σ s v σ' I h=>by
 refine qaq h fun u σ₁ h1 h=>?_
 refine qif h fun r eb h=>?_;subst eb
 rw [arm_isTrue_IfExp];refine qab (k_mono (hc.ts A env l ρ σ s r _ I h1) fun r' s₁ ⟨e,ρ₁,p⟩=>?_)
 subst e;cases r' with
 |true=>exact k_mono (ha.ts A env l ρ₁ σ₁ s₁ v σ' (I.post p) h) fun y s₂ ⟨e,q⟩=>⟨e,q.after p⟩
 |false=>exact k_mono (hb.ts A env l ρ₁ σ₁ s₁ v σ' (I.post p) h) fun y s₂ ⟨e,q⟩=>⟨e,q.after p⟩
end
end Mine
end
noncomputable section
namespace Mine
open PySem PySem.Calls PyProof.Rows PySem.W
open Sem (wp)
section
variable {w:World} {S:qc5 prog w} {P:Fn→Option Def} {F:PF S P} {C:Calls} {d:Nat}
variable {sc:Scope} {A:Around} {env:Env} {l:Locs} {ρ ρ':Rho} {σ σ' σ₁:St} {s s' s₁:Shared} {e i a b c:PySem.Expr} {m mi ma mb mc:ME} {x:String} {pos:Pos}
theorem qi0 {es:List PySem.Expr} {ms:List ME} (h:All2 (OK S C d sc) es ms):EvsOK (S:=S) C d sc es ms:=by
 induction h with
 |nil=>
  intro A env l ρ σ s vs σ' I h;refine qcs h ?_
  exact qbw ⟨ρ,.refl I.r,.nil⟩
 |cons h t ih=>
  intro A env l ρ σ s vs σ' I hv;refine qaq hv fun u σ₁ h1 hv'=>?_
  refine qaq hv' fun us σ₂ h2 h'=>?_
  clear hv hv';refine qcs h' ?_
  refine qbf (qd6 (h.ev A env l ρ σ s u _ I h1) fun y s₁ ρ₁ p hy=>?_)
  refine k_mono (ih A env l ρ₁ σ₁ s₁ us _ (I.post p) h2) fun ys s₂ z=>qac z fun ρ₂ p₂ hys=>⟨ρ₂,p.trans p₂,.cons (hy.mono p₂.agree p₂.le) hys⟩
theorem qfr {es:List PySem.Expr} {ms:List ME} (h:All2 (OK S C d sc) es ms) (env:Env):starEach es env=es.map fun e=>(false,eval e env):=by
 induction h with
 |nil=>rfl
 | @cons e m es ms h t ih=>
  have:starEach (e::es) env=(false,eval e env)::starEach es env:=by
   cases e with
   |Starred x p=>exact absurd rfl (h.noStar x p)
   |_=>rfl
  rw [this,ih];rfl
theorem qfs {es:List PySem.Expr} {env:Env}:backTo pos (es.map fun e=>(false,eval e env))=es.map fun e=>(false,eval e env):=by
 unfold backTo;rw [List.map_map];rfl
theorem qgj {es:List PySem.Expr} {env:Env}:(es.map fun e=>(false,eval e env)).any (·.1)=false:=by
 induction es with
 |nil=>rfl
 |cons e es ih=>rw [List.map_cons,List.any_cons,ih];rfl
theorem qjy: ∀{ms:List ME} {vs:List V} {σ σ':St},qdc C l ms σ=some (vs,σ')→vs.length=ms.length
 | [],vs,σ,σ',h=>by cases h;rfl
 |m::ms,vs,σ,σ',h=>by
  refine qaq h fun u σ₁ h1 h=>?_
  refine qaq h fun us σ₂ h2 h=>?_
  first|refine qcs h ?_|cases h
  rw [List.length_cons,List.length_cons,qjy h2]
theorem qtm {es:List PySem.Expr} {ms:List ME} {kd:Nat} (hl:ms.length≤1000) (t:All2 (OK S C d sc) es ms):qb1 (S:=S) C d sc (.Tuple es kd pos) (.tup ms):=fun A env l ρ σ s v σ' I h=>by
 refine qaq h fun vs σ₁ h1 h=>?_
 first|refine qcs h ?_|cases h
 rw [arm_eval_Tuple,qfr t,qfs];refine qab (qcu (qab (k_mono (qi0 t A env l ρ σ s vs _ I h1) fun ys s₁ ⟨ρ₁,p,hys⟩=>qbu (wpAny_newObj_type ?_ ?_))))
 ·exact(PV.newTup p.rel hys).after p
 ·show ys.toArray.size≤sizeLine
  rw [List.size_toArray,←hys.length,qjy h1,sizeLine_eq];(with_reducible exact Nat.le_trans ‹_› (by decide))
theorem ev_lst {es:List PySem.Expr} {ms:List ME} (hl:ms.length≤1000) (t:All2 (OK S C d sc) es ms):qb1 (S:=S) C d sc (.List es pos) (.lst ms):=fun A env l ρ σ s v σ' I h=>by
 refine qaq h fun vs σ₁ h1 h=>?_
 first|refine qcs h ?_|cases h
 rw [arm_eval_List,qfr t,qfs];have hv:=qjy h1
 refine qab (qcu (qab (k_mono (qi0 t A env l ρ σ s vs _ I h1) fun ys s₁ ⟨ρ₁,p,hys⟩=>qbu (wpAny_newObj_type ?_ ?_))))
 ·exact(PV.newList p.rel hys (by(with_reducible exact qko ‹_› ‹_› (by decide)))).after p
 ·show ys.toArray.size≤sizeLine
  rw [List.size_toArray,←hys.length,hv,sizeLine_eq];(with_reducible exact Nat.le_trans ‹_› (by decide))
theorem qrz (R:Rel S ρ σ s):PV S ρ σ s (.ref (.dict σ.next)) (σ.new .dict (.dictI [])) (.ref s.heap.objs.size) {s with heap:=s.heap.push {cls:= .type "dict",data:= .dict #[]}}:=by
 refine⟨qgs ρ (.dict σ.next) s.heap.objs.size,Post.alloc1 (l:= .dict σ.next) R rfl rfl (by rintro ⟨_,_,h⟩;cases h) (fun b o e=>Heap.get?_push_of_some _ e) ?_ ?_,?_⟩
 ·cases e:s.heap.get? s.heap.objs.size with
  |none=>rfl
  |some o=>exact absurd (Heap.lt_size e) (Nat.lt_irrefl _)
 ·refine⟨[],?_,.nil,Nat.zero_le _⟩
  rw [qa2];exact Heap.DictOf.new s.heap
 ·exact⟨Nat.lt_succ_self _,by rw [qa2]⟩
theorem qux:qb1 (S:=S) C d sc (.Dict [] [] pos) (.dct [] []):=fun A env l ρ σ s v σ' I h=>by
 refine qcs h ?_
 exact qbu (wpAny_Dict_empty (qrz I.r))
theorem Post.adopt {G:Addr→Prop} {ρ₁:Rho} {lo:Loc} {o:MObj} {D:Addr} {h':Heap} {tk:Nat} (p:Post S G ρ σ s ρ₁ σ₁ s₁) (hl:lo.n=σ₁.next) (hc:qal lo= [lo]) (hd: ¬ ∃c n,lo= .idict c n)
  (hD:s.heap.get? D=none) (hno: ¬Own ρ₁ σ₁ D) (hB:S.B.get? D=none) (hk: ∀b o,b≠D→s₁.heap.get? b=some o→h'.get? b=some o)
  (hn:OR S (qgs ρ₁ lo D) (σ₁.next+1) h' lo o):Post S G ρ σ s (qgs ρ₁ lo D) ⟨upd σ₁.heap lo o,σ₁.next+1⟩ {s₁ with heap:=h',toks:=tk}:=by
 have x:=p.rel
 have ag:Agree σ₁.next ρ₁ (qgs ρ₁ lo D):=qbz hl
 have cell: ∀l',qdw (⟨upd σ₁.heap lo o,σ₁.next+1⟩:St) l'→qdw σ₁ l'∨l'=lo:=by
  intro l' h;have k: ∀l'',((⟨upd σ₁.heap lo o,σ₁.next+1⟩:St).heap l'').isSome=true→(σ₁.heap l'').isSome=true∨l''=lo:=fun l'' h=>by
   have h:(if l''=lo then some o else σ₁.heap l'').isSome=true:=h
   by_cases q:l''=lo
   ·exact .inr q
   ·rw [if_neg q]at h;exact .inl h
  cases l' with
  |idict c n=>
   rcases k (.inst c n) h with q|q
   ·exact .inl q
   ·subst q;simp [qal]at hc
  |_=>exact k _ h
 have old: ∀l',qdw σ₁ l'→qgs ρ₁ lo D l'=ρ₁ l':=fun l' h=>ag l' (x.lt l' h)
 have apart: ∀l₁,qdw σ₁ l₁→ρ₁ l₁≠D:=fun l₁ a q=>hno ⟨l₁,a,q⟩
 have self:qgs ρ₁ lo D lo=D:=qa2 ..
 refine⟨p.agree.trans ag p.le,Nat.le_succ_of_le p.le,⟨fun b ob e=>hk b ob (fun q=>by rw [q,hB]at e;cases e) (x.base b ob e),fun l' h h0=>?_,fun l₁ l₂ a b q=>?_,fun l' h=>?_,fun l' ob el=>?_,fun c n=>?_⟩,
  fun b ob e hb hf=>hk b ob (fun q=>by rw [q,hD]at e;cases e) (p.kept b ob e hb hf),fun b ob e=>?_,fun b ⟨l',h,q⟩=>?_,p.gens,p.os⟩
 ·rcases cell l' h with h|rfl
  ·rw [old l' h];exact x.fresh l' h h0
  ·rw [self];exact hB
 ·rcases cell l₁ a with a'|e1<;>rcases cell l₂ b with b'|e2
  ·exact x.inj _ _ a' b' (by rw [←old _ a',←old _ b'];exact q)
  ·rw [e2,old _ a',self]at q;exact absurd q (apart _ a')
  ·rw [e1,old _ b',self]at q;exact absurd q.symm (apart _ b')
  ·rw [e1,e2]
 ·rcases cell l' h with h|rfl
  ·exact Nat.lt_succ_of_lt (x.lt l' h)
  ·rw [hl];exact Nat.lt_succ_self _
 ·have el:(if l'=lo then some o else σ₁.heap l')=some ob:=el
  by_cases q:l'=lo
  ·subst q;rw [if_pos rfl]at el;refine qct el ?_;exact hn
  ·rw [if_neg q]at el;exact((x.obj l' ob el).heap fun l'' hm ob' e=>hk _ ob' (apart _ (qdx el x.noi hm)) e).rho (x.lt l' (qdx el x.noi (by cases l'<;>simp [qal]))) ag (Nat.le_succ _)
 ·show(if Loc.idict c n=lo then some o else σ₁.heap (.idict c n))=none
  rw [if_neg (fun q=>hd ⟨c,n,q.symm⟩)];exact x.noi c n
 ·refine qaj (p.stay b ob e) fun o' e'=>?_
  exact⟨o',hk b o' (fun q=>by rw [q,hD]at e;cases e) e'⟩
 ·rcases cell l' h with h|rfl
  ·exact p.own b ⟨l',h,by rw [←old l' h];exact q⟩
  ·rw [self]at q;exact .inr (q ▸ hD)
theorem quy {ks:List String} {keys:List (Option PySem.Expr)} (hk:All2 (fun k (x:Option PySem.Expr)=> ∃kd p,x=some (.Constant (.str (Str.ofString k)) kd p)) ks keys): ∀{es:List PySem.Expr} {ms:List ME},All2 (OK S C d sc) es ms→ks.length=es.length→
  ∀{ρ:Rho} {σ σ':St} {s:Shared} {vs:List V},In_ S d A sc env l ρ σ s→qdc C l ms σ=some (vs,σ')→
  qas (model prog w) A (evalPairs (pairTrees keys es env pos)) (fun xs s'=> ∃ρ',Post S noF ρ σ s ρ' σ' s'∧All2 (fun(p:String×V) (q:Value×Value)=>(∃t,q.1= .str (Str.ofString p.1) t)∧VR ρ' σ'.next p.2 q.2) (ks.zip vs) xs) s:=by
 induction hk with
 |nil=>
  intro es ms ho hl ρ σ σ' s vs I h;cases ho with
  |nil=>
   refine qcs h ?_
   exact qad ⟨ρ,.refl I.r,.nil⟩
  |cons=>cases hl
 | @cons k x ks keys hx tx ih=>
  intro es ms ho hl ρ σ σ' s vs I hv;cases ho with
  |nil=>cases hl
  | @cons e m es ms h t=>
   refine qic hx fun kd p0 e3_2=>?_;subst e3_2
   refine qaq hv fun u σ₁ h1 hv'=>?_
   refine qaq hv' fun us σ₂ h2 h'=>?_
   clear hv hv';refine qcs h' ?_
   show qas _ _ (evalPairs ((eval (.Constant (.str (Str.ofString k)) kd p0) env,do let x ←eval e env;standAt pos;pure x)::pairTrees keys es env pos)) _ _
   unfold evalPairs;refine qbc (Constant_str ?_)
   have I0:In_ S d A sc env l ρ σ {s with toks:=s.toks+1}:=I.post (.toks I.r)
   refine qab (qaw (qd1 (h.ev A env l ρ σ _ u _ I0 h1) fun y s₁ ρ₁ p hy=>qab (qcu (qad ?_))))
   refine qab (qaw (k_mono (ih t (Nat.succ.inj hl) (I0.post p) h2) fun ys s₂ z=>qac z fun ρ₂ p₂ hys=>qad ⟨ρ₂,((Post.toks I.r).trans p).trans p₂,.cons ⟨⟨_,rfl⟩,hy.mono p₂.agree p₂.le⟩ hys⟩))
theorem qk0 {D:Addr}: ∀{kvs:List (String×V)} {xs:List (Value×Value)} {acc:List (Str×Value)} {k:Nat} {ρ:Rho} {s:Shared} {Q:PUnit→Shared→Prop},
  All2 (fun(p:String×V) (q:Value×Value)=>(∃t,q.1= .str (Str.ofString p.1) t)∧VR ρ k p.2 q.2) kvs xs→s.heap.DictOf (PySem.strKind prog w) D acc→acc.length+kvs.length≤1000→(acc.map (·.1)++kvs.map fun p=>Str.ofString p.1).Nodup→
  (∀h' tk more,h'.DictOf (PySem.strKind prog w) D (acc++more)→Heap.SameBut D s.heap h'→All2 (fun(p:String×V) (q:Str×Value)=>q.1=Str.ofString p.1∧VR ρ k p.2 q.2) kvs more→Q ⟨⟩ {s with heap:=h',toks:=tk})→
  wpAny (model prog w) A (storeAll D xs) Q (fun _ _=>False) s
 |_,_,acc,k,ρ,s,Q,.nil,hd,_,_,hQ=>by
  unfold storeAll;rw [List.forIn_nil];exact wpAny_pure (by simpa using hQ s.heap s.toks [] (by simpa using hd) (.refl ..) .nil)
 |p::kvs,x::xs,acc,k,ρ,s,Q,.cons h t,hd,hlen,hnd,hQ=>by
  refine qa1 h fun z4_0 hv=>?_;refine qaj z4_0 fun tk e1=>?_
  obtain⟨x1,x2⟩:=x
  subst e1;unfold storeAll;rw [List.forIn_cons];have hst:stored acc (Str.ofString p.1) x2=acc++ [(Str.ofString p.1,x2)]:=by
   unfold stored;rw [if_neg];intro hany;refine qac (List.any_eq_true.mp hany) fun q hq e=>?_
   rw [List.nodup_append]at hnd;exact hnd.2.2 q.1 (List.mem_map_of_mem hq) (Str.ofString p.1) (by simp) (by simpa using e)
  refine wpAny_bind (wpAny_bind (wpAny_dictSet_pairs qth hd (fun h1 hd1 hs1=>wpAny_pure ?_) (by rw [sizeLine_eq];simp at hlen;lia)))
  rw [hst]at hd1;refine qk0 (s:= {s with heap:=h1,toks:=s.toks+1}) t hd1 (by simp at hlen ⊢;lia) (by simpa using hnd) fun h' tk' more hd' hs' ha=>?_
  exact hQ h' tk' ((Str.ofString p.1,x2)::more) (by simpa using hd') (hs1.trans hs') (.cons ⟨rfl,hv⟩ ha)
end
end Mine
end
noncomputable section
namespace Mine
open PySem PySem.Calls PyProof.Rows PySem.W
open Sem (wp)
section
variable {w:World} {S:qc5 prog w} {P:Fn→Option Def} {F:PF S P} {C:Calls} {d:Nat}
variable {sc:Scope} {A:Around} {env:Env} {l:Locs} {ρ ρ':Rho} {σ σ' σ₁:St} {s s' s₁:Shared} {e i a b c:PySem.Expr} {m mi ma mb mc:ME} {x:String} {pos:Pos}
theorem qps {pairs:List (Sem Value×Sem Value)} {Q:Addr→Shared→Prop} (hlen:pairs.length≤15)
  (h:qas (model prog w) A (evalPairs pairs) (fun vs s₁=>wpAny (model prog w) A (storeAll s.heap.objs.size vs) (fun _ s₂=>Q s.heap.objs.size s₂) (fun _ _=>False) s₁)
   {s with heap:=s.heap.push {cls:= .type "dict",data:= .dict #[]}}):qas (model prog w) A (subDict pairs) Q s:=by
 unfold subDict;refine qbc (wpAny_alloc ?_)
 refine qab (qaw ?_)
 rw [if_pos hlen];refine qab (k_mono h fun vs s₁ h₁=>?_)
 refine qaw ?_
 exact qbc (wpAny_mono h₁ (fun _ s₂ h₂=>qad (qad h₂)) fun _ _ e=>e)
theorem qne (s:Shared):s.heap.get? s.heap.objs.size=none:=by
 cases e:s.heap.get? s.heap.objs.size with
 |none=>rfl
 |some o=>exact absurd (Heap.lt_size e) (Nat.lt_irrefl _)
theorem Rel.fresh_base (R:Rel S ρ σ s) {D:Addr} (h:s.heap.get? D=none):S.B.get? D=none:=by
 cases e:S.B.get? D with
 |none=>rfl
 |some o=>have:=R.base _ _ e;rw [h]at this;exact qa3 this
theorem Post.notOwn {G:Addr→Prop} {s0:Shared} {D:Addr} {ob:Obj} (p:Post S G ρ σ s ρ' σ' s') (e:s.heap.get? D=some ob) (h: ¬Own ρ σ D): ¬Own ρ' σ' D:=fun q=>(p.own D q).elim h fun z=>by rw [e]at z;cases z
theorem Rel.notOwn (R:Rel S ρ σ s) {D:Addr} (h:s.heap.get? D=none): ¬Own ρ σ D:=fun⟨l,hl,q⟩=>by
 refine qaj (R.cellThere hl) fun o e=>?_
 rw [q,h]at e;exact qa3 e
theorem Heap.sameBut_dict {h h':Heap} {D:Addr} (hs:Heap.SameBut D h h'): ∀b o,b≠D→h.get? b=some o→h'.get? b=some o:=fun b o hb e=>(hs.2 b hb).trans e
theorem qpt {ks:List String} {keys:List (Option PySem.Expr)} (h:All2 (fun k (x:Option PySem.Expr)=> ∃kd p,x=some (.Constant (.str (Str.ofString k)) kd p)) ks keys):keys.all (·.isSome)=true:=by
 induction h with
 |nil=>rfl
 |cons r _ ih=>refine qic r fun kd p e1_2=>?_;subst e1_2;rw [List.all_cons,ih];rfl
theorem ev_dct {ks:List String} {keys:List (Option PySem.Expr)} {es:List PySem.Expr} {ms:List ME} (hk:All2 (fun k (x:Option PySem.Expr)=> ∃kd p,x=some (.Constant (.str (Str.ofString k)) kd p)) ks keys)
  (t:All2 (OK S C d sc) es ms) (hlen:ks.length=es.length) (h15:ks.length≤15) (hnd:ks.Nodup) (h0:ks≠ []):qb1 (S:=S) C d sc (.Dict keys es pos) (.dct ks ms):=fun A env l ρ σ s v σ' I h=>by
 refine qaq h fun vs σ₁ h1 h=>?_
 cases ks with
 |nil=>exact absurd rfl h0
 |cons k0 kr=>
 first|refine qcs h ?_|cases h
 have hl2:keys.length=es.length:=by rw [←hk.length,hlen]
 have hall:=qpt hk
 have hn:=pairTrees_length keys es env pos hall hl2
 have hp0:pairTrees keys es env pos≠ []:=by
  intro he;rw [he]at hn;have:=hk.length
  simp at hn this
  lia
 rw [arm_eval_Dict,zip_pairTrees keys es env pos hall hl2,dictDisplay_pairs _ hp0 (by rw [hn,←hk.length];(with_reducible exact Nat.lt_of_le_of_lt ‹_› (by decide)))];have hDno:=qne s
 have p0:Post S noF ρ σ s ρ σ {s with heap:=s.heap.push {cls:= .type "dict",data:= .dict #[]}}:= .keeps (tk:=s.toks) I.r fun b o e=>Heap.get?_push_of_some _ e
 have hDat:(s.heap.push {cls:= .type "dict",data:= .dict #[]}).get? s.heap.objs.size=some {cls:= .type "dict",data:= .dict #[]}:=Heap.get?_push_size _ rfl
 refine qab (qcu (qab (qps (by rw [hn,←hk.length];exact h15) (k_mono (quy hk t hlen (I.post p0) h1) fun xs s₂ ⟨ρ₁,p,hx⟩=>?_))))
 have hnoOwn: ¬Own ρ₁ σ₁ s.heap.objs.size:=p.notOwn (s0:=s) hDat (I.r.notOwn hDno)
 have hD2:s₂.heap.get? s.heap.objs.size=some {cls:= .type "dict",data:= .dict #[]}:=p.kept _ _ hDat (I.r.notOwn hDno) (fun h=>h)
 have hd2:s₂.heap.DictOf (PySem.strKind prog w) s.heap.objs.size []:=by
  refine qga (Heap.DictOf.new (knd:=PySem.strKind prog w) s.heap) fun o es ep ho r=>?_
  rw [hDat]at ho;cases ho;exact⟨_,es,ep,hD2,r⟩
 have hvl:vs.length=es.length:=by rw [qjy h1,t.length]
 refine qk0 (ρ:=ρ₁) (k:=σ₁.next) hx hd2 (by simp only [List.length_nil,List.length_zip];exact Nat.le_trans (Nat.le_of_eq (Nat.zero_add _)) (Nat.le_trans (Nat.min_le_left _ _) (Nat.le_trans h15 (by decide)))) ?_ fun h' tk more hd' hs' ha=>qad ?_
 ·simp only [List.map_nil,List.nil_append];have e:((k0::kr).zip vs).map (fun p=>Str.ofString p.1)=(k0::kr).map Str.ofString:=by
   rw [show(fun(p:String×V)=>Str.ofString p.1)=Str.ofString ∘ Prod.fst from rfl,←List.map_map,List.map_fst_zip (Nat.le_of_eq (hlen.trans hvl.symm))]
  rw [e];exact hnd.map _ fun x y hne q=>hne (qbq q)
 ·have ag:=qbz (ρ:=ρ₁) (l:= .dict σ₁.next) (a:=s.heap.objs.size) (k:=σ₁.next) rfl
  refine⟨qgs ρ₁ (.dict σ₁.next) s.heap.objs.size,Post.adopt (p0.trans p) (lo:= .dict σ₁.next) rfl rfl (by rintro ⟨_,_,h⟩;cases h) hDno hnoOwn (I.r.fresh_base hDno) (Heap.sameBut_dict hs') ?_,Nat.lt_succ_self _,by rw [qa2]⟩
  refine⟨more,?_,ha.mono fun _ _ z=>⟨z.1,z.2.mono ag (Nat.le_succ _)⟩⟩
  rw [qa2];simpa using hd'
end
end Mine
end
noncomputable section
namespace Mine
open PySem PySem.Calls PyProof.Rows PySem.W
open Sem (wp)
section
variable {w:World} {S:qc5 prog w} {P:Fn→Option Def} {F:PF S P} {C:Calls} {d:Nat}
variable {sc:Scope} {A:Around} {env:Env} {l:Locs} {ρ ρ':Rho} {σ σ' σ₁:St} {s s' s₁:Shared} {e i a b c:PySem.Expr} {m mi ma mb mc:ME} {x:String} {pos p2:Pos}
theorem qk1 {α:Type} (xs:List α) (k:Int) (h:0≤k):xs.take (clipAt xs.length k)=xs.take k.toNat:=by
 refine qaj (Int.eq_ofNat_of_zero_le h) fun n e0_1=>?_;subst e0_1
 rw [clipAt_nat,Int.toNat_natCast];by_cases q:n≤xs.length
 ·rw [Nat.min_eq_left q]
 ·rw [Nat.min_eq_right (by lia),List.take_length,List.take_of_length_le (by lia)]
theorem qpu {α:Type} (xs:List α) (k:Int) (h:0≤k):(xs.drop (clipAt xs.length k)).take (xs.length- clipAt xs.length k)=xs.drop k.toNat:=by
 refine qaj (Int.eq_ofNat_of_zero_le h) fun n e1_1=>?_;subst e1_1
 rw [clipAt_nat,Int.toNat_natCast];rw [List.take_of_length_le (by simp)];by_cases q:n≤xs.length
 ·rw [Nat.min_eq_left q]
 ·rw [Nat.min_eq_right (by lia),List.drop_length,List.drop_of_length_le (by lia)]
theorem qjz {lo hi:Option PySem.Expr} {Q:Value→Shared→Prop}
  (h:qas (model prog w) A (valueOrNone (evalOpt lo env)) (fun x s₁=>qas (model prog w) A (valueOrNone (evalOpt hi env)) (fun y s₂=>Q (.ref s₂.heap.objs.size) {s₂ with heap:=s₂.heap.push {cls:= .type "slice",data:= .fields #[x,y,.none]}}) s₁) s):
  qas (model prog w) A (eval (.Slice lo hi none p2) env) Q s:=by
 rw [arm_eval_Slice];refine qab (k_mono h fun x s₁ h₁=>qab (qaw (k_mono h₁ fun y s₂ h₂=>qab (qaw (qad ?_)))))
 exact qbu (wpAny_newObj_type h₂ (by size_fits))
set_option tactic.hygienic true in
theorem qn4 (ha:OK S C d sc a ma) (hb:OK S C d sc b mb):qb1 (S:=S) C d sc (.Subscript a (.Slice none (some b) none p2) pos) (.sliceTo ma mb):=fun A env l ρ σ s v σ' I h=>by
 refine qaq h fun u σ₁ h1 h=>?_
 refine qaq h fun k σ₂ h2 h=>?_
 rw [arm_eval_Subscript];refine qgh (ha.ev A env l ρ σ s _ _ I h1) fun ρ₁ s₁ x p₁ hx=>qab (qaw (qjz (qad ?_)))
 show qas _ _ (eval b env) _ _
 refine k_mono (hb.ev A env l ρ₁ σ₁ s₁ _ _ (I.post p₁) h2) fun y s₂ ⟨ρ₂,p₂,hy⟩=>qbu (qpf ?_)
 have hx:=hx.mono p₂.agree p₂.le
 have p₃:Post S noF ρ₂ σ₂ s₂ ρ₂ σ₂ {s₂ with heap:=s₂.heap.push {cls:= .type "slice",data:= .fields #[.none,y,.none]}}:= .keeps (tk:=s₂.toks) p₂.rel fun b o e=>Heap.get?_push_of_some _ e
 have hsl:=Heap.IsSliceOf.new s₂.heap .none y .none
 unfold qer at h;split at h
 ·rename_i bs k _ _ _
  refine qaj hx fun t e2_1=>?_;subst e2_1;refine qaj hy fun t' e3_1=>?_;subst e3_1
  split at h<;>cases h
  refine⟨"bytes",_,FB.slot_bytes_getitem.lookup,typeIs_bytes _ _ _,getItem_meets (typeIs_bytes _ _ _) (by decide) FB.slot_bytes_getitem FB.entry_bytes_getitem (FB.args_bytes_getitem_2 _ _) (KBc.meets_slice2 _ t _ .none (.int k t')) ⟨hsl,?_,fun t'' tk=>?_⟩⟩
  ·rw [sizeLine_eq];exact Nat.le_trans (KBc.size_picked_le _ _ _) (by rw [List.size_toArray];lia)
  ·refine PV.after (p₂.trans p₃) ?_
   refine .tok p₃.rel ⟨t'',?_⟩
   rw [KBc.picked_eq];simp only [Option.elim,List.drop_zero,Nat.sub_zero];rw [show bs.toArray.size=bs.length from List.size_toArray ..,qk1 _ _ (by lia)]
 ·rename_i n k _ _ _
  refine qa1 hx fun _ e4_1=>?_;subst e4_1;refine qaj hy fun t' e5_1=>?_;subst e5_1
  split at h
  ·rename_i vs e1
   split at h<;>cases h
   refine qao (p₃.rel.list e1) fun its z6_1 r hl=>?_;refine qaj z6_1 fun mm q=>?_
   have hL:({s₂ with heap:=s₂.heap.push {cls:= .type "slice",data:= .fields #[.none,.int k t',.none]}}:Shared).heap.IsList (ρ₂ (.list n)) its.toArray:=⟨_,q,rfl,mm,rfl⟩
   refine⟨"list",_,slot_list_getitem.lookup,hL.typeIs,wpAny_getItem_list_slice hL hsl .none (.int k t') .none (by intro z;cases z) ?_ (qui r hl)⟩
   rw [slicePick_plain];simp only [Option.elim,List.drop_zero,Nat.sub_zero];rw [show its.toArray.size=its.length from List.size_toArray ..,qk1 _ _ (by(with_reducible assumption))];refine PV.after (p₂.trans p₃) (PV.newList p₃.rel (r.take _) ?_)
   exact Nat.le_trans (List.length_take_le' ..) hl
  ·exact qa3 h
 ·exact qa3 h
set_option tactic.hygienic true in
theorem qk2 (ha:OK S C d sc a ma) (hb:OK S C d sc b mb):qb1 (S:=S) C d sc (.Subscript a (.Slice (some b) none none p2) pos) (.sliceFrom ma mb):=fun A env l ρ σ s v σ' I h=>by
 refine qaq h fun u σ₁ h1 h=>?_
 refine qaq h fun k σ₂ h2 h=>?_
 rw [arm_eval_Subscript];refine qgh (ha.ev A env l ρ σ s _ _ I h1) fun ρ₁ s₁ x p₁ hx=>qab (qaw (qjz ?_))
 show qas _ _ (eval b env) _ _
 refine k_mono (hb.ev A env l ρ₁ σ₁ s₁ _ _ (I.post p₁) h2) fun y s₂ ⟨ρ₂,p₂,hy⟩=>qad (qbu (qpf ?_))
 have hx:=hx.mono p₂.agree p₂.le
 have p₃:Post S noF ρ₂ σ₂ s₂ ρ₂ σ₂ {s₂ with heap:=s₂.heap.push {cls:= .type "slice",data:= .fields #[y,.none,.none]}}:= .keeps (tk:=s₂.toks) p₂.rel fun b o e=>Heap.get?_push_of_some _ e
 have hsl:=Heap.IsSliceOf.new s₂.heap y .none .none
 unfold qdy at h;split at h
 ·rename_i bs k _ _ _
  refine qaj hx fun t e7_1=>?_;subst e7_1;refine qaj hy fun t' e8_1=>?_;subst e8_1
  split at h<;>cases h
  refine⟨"bytes",_,FB.slot_bytes_getitem.lookup,typeIs_bytes _ _ _,getItem_meets (typeIs_bytes _ _ _) (by decide) FB.slot_bytes_getitem FB.entry_bytes_getitem (FB.args_bytes_getitem_2 _ _) (KBc.meets_slice2 _ t _ (.int k t') .none) ⟨hsl,?_,fun t'' tk=>?_⟩⟩
  ·rw [sizeLine_eq];exact Nat.le_trans (KBc.size_picked_le _ _ _) (by rw [List.size_toArray];lia)
  ·refine PV.after (p₂.trans p₃) ?_
   refine .tok p₃.rel ⟨t'',?_⟩
   rw [KBc.picked_eq];simp only [Option.elim];rw [show bs.toArray.size=bs.length from List.size_toArray ..,qpu _ _ (by lia)]
 ·exact qa3 h
end
end Mine
end
noncomputable section
namespace Mine
open PySem PySem.Calls PyProof.Rows PySem.W
open Sem (wp)
section
variable {w:World} {S:qc5 prog w} {P:Fn→Option Def} {C:Calls} {d:Nat}
variable {sc:Scope} {A:Around} {env:Env} {l:Locs} {ρ ρ':Rho} {σ σ' σ₁:St} {s s' s₁:Shared} {e i a b c:PySem.Expr} {m mi ma mb mc:ME} {x:String} {pos np ap:Pos}
theorem Bud.cc (b:Bud A d):BudC A d:=⟨b.hd,b.gd,by have:=b.dep;(with_reducible exact oq2 ‹_›),by have:=b.un;(with_reducible exact oq2 ‹_›)⟩
theorem Bud.make (b:Bud A d) (C:Addr) (rest:List Value):BudC (A.under (.builtin "type.__call__" ⟨.ref C::rest,[]⟩)) d:=
 ⟨b.hd,by show pushGuards [] A.guards=_;rw [pushGuards_eq,b.gd];rfl,by show A.depth+1+5*d≤990;have:=b.dep;rw [Nat.add_right_comm];exact Nat.le_trans (Nat.add_le_add_left (by decide) _) this,by show A.units+1+30*d≤9700;have:=b.un;rw [Nat.add_right_comm];exact Nat.le_trans (Nat.add_le_add_left (by decide) _) this⟩
theorem qnf {x:Str} {v:Value} {Q:Value→Shared→Prop} (F:PF S P) (E:EnvFor sc env) (R:Rel S ρ σ s) (hk:sc.names.lookup x=some .globalImplicit) (hd:(x==("__debug__" :Str))=false) (hv:F.mg x=some v) (h:Q v s):
  qas (model prog w) A (eval (.Name x np) env) Q s:=
 qbu (Name_function_global E.kind (E.gl _ hk) (loadGlobal_global (by rw [E.glob];exact F.hg.keeps R.base) hv h) hd)
theorem k_blt {x:Str} {v:Value} {Q:Value→Shared→Prop} (F:PF S P) (E:EnvFor sc env) (R:Rel S ρ σ s) (hk:sc.names.lookup x=some .globalImplicit) (hd:(x==("__debug__" :Str))=false) (h0:F.mg x=none) (hv:F.mb x=some v) (h:Q v s):
  qas (model prog w) A (eval (.Name x np) env) Q s:=
 qbu (Name_function_global E.kind (E.gl _ hk) (loadGlobal_builtin (by rw [E.glob];exact F.hg.keeps R.base) h0 (by rw [E.blt];exact F.hb.keeps R.base) hv h) hd)
theorem qi1 {f:Str} {fv:Value} {es:List PySem.Expr} {ms:List ME} {vs:List V} {Q:Value→Shared→Prop} (t:All2 (OK S C d sc) es ms) (I:In_ S d A sc env l ρ σ s) (h1:qdc C l ms σ=some (vs,σ₁))
  (hf: ∀Q':Value→Shared→Prop,Q' fv s→qas (model prog w) A (eval (.Name f np) env) Q' s) (keep: ∀s',S.K.In s'.heap→(∀b o,S.B.get? b=some o→s'.heap.get? b=some o)→ ∃k,(k= .frame∨k= .machine)∧ ∀Q',Q' k s'→wpAny (model prog w) A (keeperOf fv) Q' (fun _ _=>False) s')
  (h: ∀ρ₁ s₁ ys,Post S noF ρ σ s ρ₁ σ₁ s₁→All2 (VR ρ₁ σ₁.next) vs ys→qas (model prog w) A (call fv ys []) Q s₁):qas (model prog w) A (eval (.Call (.Name f np) es [] pos) env) Q s:=by
 show qas _ _ (do callWith pos (←eval (.Name f np) env) [] (backTo pos (starEach es env)) []) _ _
 refine qab (hf _ ?_)
 rw [qfr t,qfs];refine qgg qgj (qgf qgj (k_mono (qi0 t A env l ρ σ s vs _ I h1) fun ys s₁ ⟨ρ₁,p,hys⟩=>⟨rfl,keep s₁ p.rel.X p.rel.base,?_⟩))
 exact h ρ₁ s₁ ys p hys
theorem quz (F:PF S P) (hC:qc7 F C d) {g:String} {es:List PySem.Expr} {ms:List ME} (hg:g∈funNames) (hk:sc.names.lookup (Str.ofString g)=some .globalImplicit) (hd:(Str.ofString g==("__debug__" :Str))=false) (t:All2 (OK S C d sc) es ms):
  qb1 (S:=S) C d sc (.Call (.Name (Str.ofString g) np) es [] pos) (.call g ms):=fun A env l ρ σ s v σ' I h=>by
 refine qaq h fun vs σ₁ h1 h=>?_
 refine qa1 (hC _ _ _ _ _ h) fun hP hc=>?_
 refine qcv (F.isFn _ hP) fun o fd ho hfd=>?_
 refine qi1 t I h1 (fun Q' q=>qnf F I.e I.r hk hd (F.fname g hg) q) (fun s' X K=>⟨.frame,.inl rfl,fun Q' q=>?_⟩) fun ρ₁ s₁ ys p hys=>?_
 ·unfold keeperOf;refine wpAny_bind (wpAny_load (K _ _ ho) ?_)
  rw [hfd];exact wpAny_pure q
 ·exact qgv (qcw (hc A ρ₁ s₁ ys I.b.cc p.rel hys) fun r s₂ ⟨y,e,q⟩=>by subst e;exact q.after p)
theorem ev_new (F:PF S P) (hC:qc7 F C d) {cl:Cls} {es:List PySem.Expr} {ms:List ME} (hk:sc.names.lookup (Str.ofString (qdv cl))=some .globalImplicit) (hd:(Str.ofString (qdv cl)==("__debug__" :Str))=false) (t:All2 (OK S C d sc) es ms):
  qb1 (S:=S) C d sc (.Call (.Name (Str.ofString (qdv cl)) np) es [] pos) (.new cl ms):=fun A env l ρ σ s v σ' I h=>by
 refine qaq h fun vs σ₁ h1 h=>?_
 refine qaq h fun u σ₂ h2 h=>?_
 cases u<;>simp only [Option.some.injEq,Prod.mk.injEq,reduceCtorEq]at h
 refine qa1 h fun e2_0 e2_1=>?_;subst e2_0;subst e2_1
 refine qa1 (hC _ _ _ _ _ h2) fun hP hc=>?_
 refine qeg (F.meth cl "__init__" hP) fun hfi hty _=>?_
 refine qi1 t I h1 (fun Q' q=>qnf F I.e I.r hk hd (F.cname cl) q) (fun s' X K=>⟨.machine,.inr rfl,fun Q' q=>?_⟩) fun ρ₁ s₁ ys p hys=>?_
 ·have Y:=makes_of (M:=model prog w) X (F.makes cl)
  refine ex4_2 Y.obj fun oc od cd sl hCo _=>?_
  unfold keeperOf;refine wpAny_bind (wpAny_load hCo ?_)
  dsimp only;refine wpAny_bind (Y.call.here ?_)
  exact wpAny_pure q
 ·obtain⟨hh,g,dr,tk,os⟩:=s₁
  have X:=p.rel.X
  refine qgv (qum (makes_of X (F.makes cl)) (looks_findIn X hfi) (fun self=>bind_fn X self hty) rfl ?_)
  have e1:(hh.push emptyDict).get? hh.objs.size=some emptyDict:=Heap.get?_push_size _ rfl
  have e2:((hh.push emptyDict).push (instObj (S.cA cl) hh.objs.size)).get? (hh.objs.size+1)=some (instObj (S.cA cl) hh.objs.size):=by
   rw [←Heap.size_push (h:=hh) (o:=emptyDict)];exact Heap.get?_push_size _ rfl
  have e3:=Heap.get?_push_of_some (instObj (S.cA cl) hh.objs.size) e1
  let ρ₂:Rho:=qgs (qgs ρ₁ (.inst cl σ₁.next) (hh.objs.size+1)) (.idict cl σ₁.next) hh.objs.size
  have r1:ρ₂ (.inst cl σ₁.next)=hh.objs.size+1:=by
   show qgs _ _ _ _=_
   rw [qgs,if_neg (by intro q;cases q),qa2]
  have r2:ρ₂ (.idict cl σ₁.next)=hh.objs.size:=qa2 ..
  have ag:Agree σ₁.next ρ₁ ρ₂:=(qbz (l:= .inst cl σ₁.next) (k:=σ₁.next) rfl).trans (qbz (l:= .idict cl σ₁.next) (k:=σ₁.next) rfl) (Nat.le_refl _)
  have no1:hh.get? (hh.objs.size+1)=none:=by
   cases q:hh.get? (hh.objs.size+1)with
   |none=>rfl
   |some o=>exact absurd (Heap.lt_size q) (Nat.not_lt.mpr (Nat.le_succ _))
  have p₂:Post S noF ρ₁ σ₁ ⟨hh,g,dr,tk,os⟩ ρ₂ (σ₁.new (.inst cl) (.inst [])) ⟨(hh.push emptyDict).push (instObj (S.cA cl) hh.objs.size),g,dr,tk,os⟩:=by
   refine Post.alloc (l:= .inst cl σ₁.next) (o:= .inst []) (tk:=tk) p.rel rfl (by rintro ⟨_,_,q⟩;cases q) ag (fun b o e=>Heap.get?_push_of_some _ (Heap.get?_push_of_some _ e)) ?_ ?_ ?_
   ·intro l' hl';simp [qal]at hl'
    rcases hl' with rfl|rfl
    ·rw [r1];exact no1
    ·rw [r2];exact qne ⟨hh,g,dr,tk,os⟩
   ·intro l₁ h₁ l₂ h₂ q;simp [qal]at h₁ h₂
    rcases h₁ with rfl|rfl<;>rcases h₂ with rfl|rfl
    ·rfl
    ·rw [r1,r2]at q;exact absurd q (Nat.succ_ne_self _)
    ·rw [r1,r2]at q;exact absurd q.symm (Nat.succ_ne_self _)
    ·rfl
   ·refine⟨?_,#[],0,?_,.nil,Nat.zero_le _,fun _ hp=>(nomatch hp)⟩
    ·rw [r1,r2];exact e2
    ·rw [r2];exact e3
  refine qcw (hc _ ρ₂ _ _ (I.b.make _ _) p₂.rel (.cons ⟨Nat.lt_succ_self _,?_⟩ (hys.mono fun _ _ z=>z.mono ag (Nat.le_succ _)))) fun r s₂ ⟨y,e,q⟩=>?_
  ·rw [r1]
  ·refine qac q fun ρ₃ p₃ hy=>?_
   cases hy
   refine⟨e,?_⟩
   have hlt:=p₃.le
   refine⟨ρ₃,(p.trans p₂).trans p₃,hlt,?_⟩
   rw [p₃.agree _ (show(Loc.inst cl σ₁.next).n<σ₁.next+1 from Nat.lt_succ_self _),r1]
end
end Mine
end
noncomputable section
namespace Mine
open PySem PySem.Calls PyProof.Rows PySem.W
open MeetsSeq MeetsSeq2 SeqRoads2 SeqAt
open AutoSeq1 (wpAny_loadPart')
theorem qr0 (l:Addr) (items:Array Value) (n:Nat) (x:Value) (e:Value→Bool) (j:Nat) (hj:j<items.size) (hit:e items[j]=true) (hno: ∀m (hm:m<items.size),m<j→e items[m]=false) (hs1:items.size≤sizeLine) (k:Nat):
  ∀i:Nat,j- i=k→i≤j→Meets (Builtin.«list.remove.loop» ⟨[.ref l,x,rawInt i],[]⟩)
   (fun A R s=>s.heap.get? l=some {cls:= .type "list",dict:=none,data:= .seq items n,slots:= #[]}∧(∀y,y∈items→EqAt A.in1 s y x (e y))∧R (.ok (.ret .none)) {s with heap:=s.heap.update l (Obj.mapSeq fun xs=>xs.eraseIdxIfInBounds j)}):=by
 induction k with
 |zero=>
  intro i hk hij prog w A R s h;obtain⟨hp,g,d,tk,os⟩:=s
  refine qeg h fun hl he h=>?_
  obtain rfl:i=j:=oqr hk hij
  wp_walk using wpAny_loadPart' hl
  rw [show items[((i:Nat):Int).toNat]? =some items[i] by simp [hj]];refine wpAny_bind (he _ (Array.getElem_mem hj) prog w _ _ ?_)
  rw [hit];have hz':(items.eraseIdxIfInBounds i).size≤sizeLine+1:=Nat.le_trans (size_erased items _) (Nat.le_succ_of_le hs1)
  wp_walk using(wpAny_updateSeq hl rfl (hz:=hs1) (_hz':=hz')),wpAny_loadPart' hl
  simpa using h
 |succ k ih=>
  intro i hk hij prog w A R s h;obtain⟨hp,g,d,tk,os⟩:=s
  refine qeg h fun hl he h=>?_
  have hlt:i<items.size:=by(with_reducible exact Nat.lt_of_le_of_lt ‹_› ‹_›)
  wp_walk using wpAny_loadPart' hl
  rw [show items[((i:Nat):Int).toNat]? =some items[i] by simp [hlt]];refine wpAny_bind (he _ (Array.getElem_mem hlt) prog w _ _ ?_)
  rw [hno i hlt (oqb hk.symm)]
  wp_walk
  rw [show((i:Int)+1)=((i+1:Nat):Int) by push_cast;rfl];exact⟨plainId_quiet plain_remove_loop _,codeAny_builtin entry_remove_loop (by
   rw [Around.under_plainId plain_remove_loop _];exact ih (i+1) (oqc hk.symm).symm (oqb hk.symm) prog w A R _ ⟨hl,he,h⟩)⟩
theorem rem_at (l:Addr) (items:Array Value) (n:Nat) (x:Value) (e:Value→Bool) (j:Nat) (hj:j<items.size) (hit:e items[j]=true) (hno: ∀m (hm:m<items.size),m<j→e items[m]=false) (hs1:items.size≤sizeLine):
  Meets (Builtin.«list.remove» ⟨[.ref l,x],[]⟩)
   (fun A R s=>s.heap.get? l=some {cls:= .type "list",dict:=none,data:= .seq items n,slots:= #[]}∧(∀y,y∈items→EqAt A.in1 s y x (e y))∧R (.ok (.ret .none)) {s with heap:=s.heap.update l (Obj.mapSeq fun xs=>xs.eraseIdxIfInBounds j)}):=by
 intro prog w A R s h;obtain⟨hp,g,d,tk,os⟩:=s
 refine qeg h fun hl he h=>?_
 wp_walk using wpAny_loadPart' hl
 exact⟨plainId_quiet plain_remove_loop _,codeAny_builtin entry_remove_loop (by
  rw [Around.under_plainId plain_remove_loop _];exact qr0 l items n x e j hj hit hno hs1 _ 0 rfl (Nat.zero_le _) prog w A R _ ⟨hl,he,h⟩)⟩
section
variable {A:Around} {s:Shared}
theorem qpv (a:Value):EqAt A s a a true:=fun prog w E Q h=>by
 unfold eqBool;refine wpAny_holding ?_
 rw [if_pos (beq_self_eq_true a)];exact wpAny_bind (wpAny_rule (wpAny_pure h))
theorem qn5 {x y C D:Addr} (X:s.heap.CmpInst x C [.type "object"]) (Y:s.heap.CmpInst y D [.type "object"]) (hxy:x≠y) (hu:A.units<cLine):EqAt A s (.ref x) (.ref y) false:=fun prog w E Q h=>by
 unfold eqBool;refine wpAny_holding ?_
 have hne:((Value.ref x==Value.ref y)=true) ↔ False:=⟨fun q=>hxy (by have:=eq_of_beq q;injection this),False.elim⟩
 rw [if_neg (fun q=>hne.mp q)];obtain⟨hh,g,d,t,os⟩:=s
 refine wpAny_bind (richCompare_eq_other F.cmp_object F.cmp_object X Y hxy hu ?_)
 exact wpAny_truthy_bool h
end
end Mine
end
noncomputable section
namespace Mine
open PySem PySem.Calls PyProof.Rows PySem.W
open Sem (wp)
theorem qmj {v:V}: ∀{xs ys:List V},ql5 v xs=some ys→ ∃j,∃h:j<xs.length,xs[j]=v∧(∀m (hm:m<xs.length),m<j→xs[m]≠v)∧ys=xs.eraseIdx j
 | [],ys,h=>by cases h
 |x::xs,ys,h=>by
  unfold ql5 at h;by_cases q:x=v
  ·rw [if_pos q]at h;refine qct h ?_;exact⟨0,Nat.succ_pos _,q,fun m _ hm=>absurd hm (Nat.not_lt_zero _),rfl⟩
  ·rw [if_neg q]at h;refine qac (Option.map_eq_some_iff.mp h) fun zs hz e0_2=>?_;subst e0_2
   obtain⟨j,hj,e,hn,rfl⟩:=qmj hz
   refine⟨j+1,Nat.succ_lt_succ hj,by simpa using e,fun m hm hlt=>?_,by simp⟩
   cases m with
   |zero=>simpa using q
   |succ m=>simpa using hn m (Nat.lt_of_succ_lt_succ hm) (Nat.lt_of_succ_lt_succ hlt)
section
variable {w:World} {S:qc5 prog w} {P:Fn→Option Def} {C:Calls} {d:Nat}
variable {sc:Scope} {A:Around} {env:Env} {l:Locs} {ρ ρ':Rho} {σ σ' σ₁:St} {s s' s₁:Shared} {e i a b c:PySem.Expr} {m mi ma mb mc:ME} {x:String} {pos np ap:Pos}
theorem qtn {n:Nat} {xs ys:List V} {v:V} {y:Value} (R:Rel S ρ σ s) (e:σ.heap (.list n)=some (.list xs)) (hn:n≠0) (h:ql5 v xs=some ys)
  (eb:Value→Bool) (he: ∀z,∀u∈xs,VR ρ σ.next u z→SeqAt.EqAt A.in1 s z y (eb z)∧eb z=decide (u=v)):
  wpAny (model prog w) A (call (.builtin "list.remove") [.ref (ρ (.list n)),y]) (PV S ρ σ s .none (σ.set (.list n) (.list ys))) nE s:=by
 refine qao (R.list e) fun its z2_1 r hl=>?_;refine qaj z2_1 fun m p=>?_
 obtain⟨j,hj,e1,e2,rfl⟩:=qmj h
 have len:=r.length
 have hj':j<its.toArray.size:=by rw [List.size_toArray,←len];exact hj
 have item: ∀k (hk:k<xs.length) (hk':k<its.toArray.size),VR ρ σ.next xs[k] its.toArray[k]:=fun k hk hk'=>by
  refine qac (r.get (List.getElem?_eq_getElem hk)) fun z a b=>?_
  have:its.toArray[k]=z:=by
   have:=(List.getElem?_eq_some_iff.mp a).2
   simpa using this
  rw [this];exact b
 refine call_meets PySem.F.slot_list_remove ⟨_,p,rfl⟩ PySem.F.entry_list_remove (PySem.F.args_list_remove_2 _ _) (rem_at _ its.toArray m y eb j hj' ?_ ?_ (qui r hl)) ⟨p,?_,?_⟩
 ·rw [(he _ _ (List.getElem_mem hj) (item j hj hj')).2,e1];simp
 ·intro k hk hkj;have hk2:k<xs.length:=by rw [len];simpa using hk
  rw [(he _ _ (List.getElem_mem hk2) (item k hk2 hk)).2];simpa using e2 k hk2 hkj
 ·intro z hz;obtain⟨k,hk,rfl⟩:=Array.getElem_of_mem hz
  have hk2:k<xs.length:=by rw [len];simpa using hk
  exact(he _ _ (List.getElem_mem hk2) (item k hk2 hk)).1
 ·refine⟨ρ,Post.list R e hn p (its':=its.eraseIdx j) ?_ (r.erase j) ?_,rfl⟩
  ·have hj2:j<its.length:=by simpa using hj'
   simp [Array.eraseIdxIfInBounds,hj2]
  ·exact Nat.le_trans (List.length_eraseIdx_le ..) hl
structure BM (s:Shared) (y:Value) (x:Str) (id T:String):Prop where
 ty:s.TypeIs y T
 pa:PlainAttrs T
 sl:Slot T x id
 mt:typeOf (.builtin id)=pure (.type "method_descriptor")
 hd: ∀a,y= .ref a→ ∃o,s.heap.get? a=some o∧o.dict=none
theorem qto {k:Nat} {kvs:List (Int×V)} {ps:List (Int×Value)} {i:Int} {u:V} {z:Value} (h:All2 (DR ρ k) kvs ps) (hu:VR ρ k u z):VR ρ k ((qa8 i kvs).getD u) ((valueAt ps i).getD z):=by
 have g:=qkt h i
 cases q:qa8 i kvs with
 |none=>rw [q]at g;rw [g];exact hu
 |some v=>rw [q]at g;refine qac g fun y e hv=>?_;rw [e];exact hv
theorem recvL {n:Nat} (h:qc8 (.ref (.list n)) σ=true): ∃xs,σ.heap (.list n)=some (.list xs):=by
 have h:(match σ.heap (.list n)with|some (.list _)=>true|_=>false)=true:=h
 cases q:σ.heap (.list n)with
 |none=>rw [q]at h;cases h
 |some o=>
  rw [q]at h;cases o with
  |list xs=>exact⟨xs,rfl⟩
  |_=>cases h
theorem recvD {n:Nat} (h:qc8 (.ref (.dict n)) σ=true): ∃xs,σ.heap (.dict n)=some (.dictI xs):=by
 have h:(match σ.heap (.dict n)with|some (.dictI _)=>true|_=>false)=true:=h
 cases q:σ.heap (.dict n)with
 |none=>rw [q]at h;cases h
 |some o=>
  rw [q]at h;cases o with
  |dictI xs=>exact⟨xs,rfl⟩
  |_=>cases h
theorem app_ok {n:Nat} {xs:List V} {u:V} {z:Value} (R:Rel S ρ σ s) (e:σ.heap (.list n)=some (.list xs)) (hc:xs.length≤100000∧n≠0) (hz:VR ρ σ.next u z):
  wpAny (model prog w) A (call (.builtin "list.append") [.ref (ρ (.list n)),z]) (PV S ρ σ s .none (σ.set (.list n) (.list (xs++ [u])))) nE s:=by
 refine qao (R.list e) fun its p rr hl=>?_
 exact wpAny_list_append_plain p (fun h' hp hs=>⟨ρ,Post.store (tk:=s.toks) R e (lc:= .list n) (by simp [qal]) (by intro z;cases z;exact hc.2 rfl) hs ⟨its++ [_],by simpa using hp,rr.append (.one hz),by simp;lia⟩,rfl⟩) (qui rr hl)
theorem qu0 {n:Nat} {xs ys:List V} {is:List Int} {i:Int} {z:Value} (R:Rel S ρ σ s) (e:σ.heap (.list n)=some (.list xs)) (hn:n≠0) (q1:ints? xs=some is) (q2:ql5 (.int i) xs=some ys) (hz:VR ρ σ.next (.int i) z):
  wpAny (model prog w) A (call (.builtin "list.remove") [.ref (ρ (.list n)),z]) (PV S ρ σ s .none (σ.set (.list n) (.list ys))) nE s:=by
 refine qaj hz fun t e1=>?_;subst e1
 refine qtn R e hn q2 (isI i) fun z u hu' hz'=>?_
 have:=qd5 q1;subst this
 refine qac (List.mem_map.mp hu') fun j _ e2=>?_;subst e2
 refine qaj hz' fun t' e3=>?_;subst e3
 exact⟨(MeetsSeq.EqGives.int _ _ _ _).at _ _,by simp [isI,qwc]⟩
theorem qpw (F:PF S P) {c:Cls} {k:Nat} {o:MObj} (R:Rel S ρ σ s) (ho:σ.heap (.inst c k)=some o):s.heap.CmpInst (ρ (.inst c k)) (S.cA c) [.type "object"]:=by
 refine qmc R ho fun fs e1 hg=>?_
 refine qfj ((F.cmp c).keeps R.base) fun N mN cl he hn=>?_
 obtain⟨nm,q,bs,sn,sub,col,dd,k0,k1,k2,k3,k5,hC⟩:=cl.obj
 exact⟨_,nm,q,N,bs,true,sn,sub,false,col,dd,k0,k1,k2,k3,k5,"object.__new__",mN,hg,rfl,hC,cl.ns,he,hn⟩
theorem qng {xs:List V} (h:(xs.all fun y=>match y with| .ref (.inst c' k')=>(σ.heap (.inst c' k')).isSome|_=>false)=true) {u:V} (hu:u∈xs): ∃c' k' o,u= .ref (.inst c' k')∧σ.heap (.inst c' k')=some o:=by
 have q:=List.all_eq_true.mp h u hu
 clear h hu;cases u with
 |ref l=>cases l with
  |inst c k=>exact qaj (Option.isSome_iff_exists.mp q) fun o ho=>⟨_,_,o,rfl,ho⟩
  |_=>cases q
 |_=>cases q
theorem qu1 (F:PF S P) {n:Nat} {xs ys:List V} {c:Cls} {k:Nat} {z:Value} (R:Rel S ρ σ s) (e:σ.heap (.list n)=some (.list xs)) (hn:n≠0) (hc:(xs.all fun y=>match y with| .ref (.inst c' k')=>(σ.heap (.inst c' k')).isSome|_=>false)=true)
  (q2:ql5 (.ref (.inst c k)) xs=some ys) (hu:A.units+1<cLine) (hz:VR ρ σ.next (.ref (.inst c k)) z):
  wpAny (model prog w) A (call (.builtin "list.remove") [.ref (ρ (.list n)),z]) (PV S ρ σ s .none (σ.set (.list n) (.list ys))) nE s:=by
 refine qa1 hz fun hlt e1=>?_;subst e1
 obtain⟨j,hj,ej,_,_⟩:=qmj q2
 refine qga (qng hc (List.getElem_mem hj)) fun c1 k1 o1 q1 ho1=>?_
 rw [ej]at q1;cases q1
 clear ej;refine qtn R e hn q2 (fun z=>z== .ref (ρ (.inst c k))) fun z u hu' hz'=>?_
 refine qga (qng hc hu') fun c' k' o e3 ho=>?_;subst e3
 refine qa1 hz' fun _ e4=>?_;subst e4
 by_cases q:(Loc.inst c' k')= .inst c k
 ·cases q
  refine⟨?_,by simp⟩
  rw [show((Value.ref (ρ (.inst c k)))== .ref (ρ (.inst c k)))=true from by simp];exact qpv _
 ·have hne:ρ (.inst c' k')≠ρ (.inst c k):=fun z=>q (R.inj _ _ (by simp [qdw,ho]) (by simp [qdw,ho1]) z)
  have hb:((Value.ref (ρ (.inst c' k')))== .ref (ρ (.inst c k)))=false:=by
   rw [beq_eq_false_iff_ne];intro z;injection z with z;exact hne z
  rw [hb];refine⟨qn5 (qpw F R ho) (qpw F R ho1) hne hu,?_⟩
  symm;rw [decide_eq_false_iff_not];intro z;injection z with z;exact q z
theorem qpx {n:Nat} {kvs:List (Int×V)} (R:Rel S ρ σ s) (e:σ.heap (.dict n)=some (.dictI kvs)):(ρ (.dict n)==sysModules)=false:=R.notSys (l:= .dict n) (by simp [qdw,e]) (by intro z;cases z)
theorem qu2 {n:Nat} {kvs:List (Int×V)} {k:Int} {z:Value} (R:Rel S ρ σ s) (e:σ.heap (.dict n)=some (.dictI kvs)) (hz:VR ρ σ.next (.int k) z):
  wpAny (model prog w) A (call (.builtin "dict.get") [.ref (ρ (.dict n)),z]) (PV S ρ σ s ((qa8 k kvs).getD .none) σ) nE s:=by
 refine qao (R.dictI e) fun ps dd rr hl=>?_
 refine qaj hz fun t e1=>?_;subst e1
 exact call_meetsIn PySem.F.slot_dict_get dd.mapOf.typeIs PySem.F.entry_dict_get (PySem.F.args_dict_get_2 _ _) (meets_dict_get (intKind prog w) _ qgu (qpx R e)) ⟨_,dd.mapOf,.tok R (qto rr rfl)⟩
theorem qu3 {n:Nat} {kvs:List (Int×V)} {k:Int} {dv:V} {z y:Value} (R:Rel S ρ σ s) (e:σ.heap (.dict n)=some (.dictI kvs)) (hz:VR ρ σ.next (.int k) z) (hz2:VR ρ σ.next dv y):
  wpAny (model prog w) A (call (.builtin "dict.get") [.ref (ρ (.dict n)),z,y]) (PV S ρ σ s ((qa8 k kvs).getD dv) σ) nE s:=by
 refine qao (R.dictI e) fun ps dd rr hl=>?_
 refine qaj hz fun t e1=>?_;subst e1
 exact call_meetsIn PySem.F.slot_dict_get dd.mapOf.typeIs PySem.F.entry_dict_get (PySem.F.args_dict_get_3 _ _ _) (meets_dict_get_default (intKind prog w) _ qgu (qpx R e) _) ⟨_,dd.mapOf,.tok R (qto rr hz2)⟩
theorem pop_ok {n:Nat} {kvs:List (Int×V)} {k:Int} {u:V} {z:Value} (R:Rel S ρ σ s) (e:σ.heap (.dict n)=some (.dictI kvs)) (hu:qa8 k kvs=some u) (hz:VR ρ σ.next (.int k) z):
  wpAny (model prog w) A (call (.builtin "dict.pop") [.ref (ρ (.dict n)),z]) (PV S ρ σ s u (σ.set (.dict n) (.dictI (qds k kvs)))) nE s:=by
 refine qao (R.dictI e) fun ps dd rr hl=>?_
 refine qaj hz fun t e1=>?_;subst e1
 have g:=qkt rr k
 rw [hu]at g;refine qac g fun y hy hr=>?_
 refine call_meetsIn PySem.F.slot_dict_pop dd.mapOf.typeIs PySem.F.entry_dict_pop (PySem.F.args_dict_pop_2 _ _) (meets_dict_pop_there (intKind prog w) _ qgu [] (.inl rfl) rfl) ⟨_,_,dd,?_,hy,fun h' d' hs=>?_⟩
 ·rw [←rr.length];have:sizeLine=16777216:=by rfl
  exact Nat.le_trans hl (by decide)
 ·exact⟨ρ,Post.store R e (lc:= .dict n) (by simp [qal]) (by intro z;cases z) hs ⟨_,d',qte rr,Nat.le_trans qgt hl⟩,hr⟩
noncomputable def Meth (S:qc5 prog w) (ρ:Rho) (s:Shared) (x:String) (lo:Loc) (vs:List V) (σ₂:St) (r:V) (σ':St):Prop:=
 ∃id T,BM s (.ref (ρ lo)) (Str.ofString x) id T∧ ∀A ρ₂ s₂ ys,Rel S ρ₂ σ₂ s₂→All2 (VR ρ₂ σ₂.next) vs ys→A.units+1<cLine→wpAny (model prog w) A (call (.builtin id) (.ref (ρ₂ lo)::ys)) (PV S ρ₂ σ₂ s₂ r σ') nE s₂
theorem bml_ok (F:PF S P) {n:Nat} {vs:List V} {r:V} {σ₂:St} (hr:qc8 (.ref (.list n)) σ=true) (R:Rel S ρ σ s) (h:qyl n x vs σ₂=some (r,σ')):Meth S ρ s x (.list n) vs σ₂ r σ':=by
 refine qaj (recvL hr) fun xs0 e0=>?_
 refine qao (R.list e0) fun its0 z0 _ _=>?_;refine qaj z0 fun m0 p0=>?_
 have B0: ∀id,Slot "list" (Str.ofString x) id→typeOf (.builtin id)=pure (.type "method_descriptor")→BM s (.ref (ρ (.list n))) (Str.ofString x) id "list" :=fun id a b=>
  ⟨⟨_,p0,rfl⟩,PySem.F.plainAttrs_list,a,b,fun a e=>by cases e;exact⟨_,p0,rfl⟩⟩
 clear hr e0 z0 p0;refine qyt h fun xs e2 h'=>?_;clear h
 by_cases hx:x="append"
 ·rw [if_pos hx]at h';subst hx;refine qro h' fun u eu h=>?_;clear h';subst eu
  refine qdu h fun hc h=>?_
  refine qcs h ?_
  exact⟨_,_,B0 _ PySem.F.slot_list_append PySem.F.type_list_append,fun A ρ₂ s₂ ys R2 hys hu=>by
   cases hys with
   |cons hz ht=>cases ht;exact app_ok R2 e2 hc hz⟩
 ·rw [if_neg hx]at h';by_cases hx2:x="remove"
  ·rw [if_pos hx2]at h';clear hx;subst hx2;refine qro h' fun u eu h=>?_;clear h';subst eu
   have S0:=B0 _ PySem.F.slot_list_remove PySem.F.type_list_remove
   clear B0;cases u with
   |int i=>
    refine qdu h fun hn h=>?_
    refine qc9 h fun is q1 h=>?_
    refine qc9 h fun ys' q2 h=>?_
    refine qcs h ?_
    exact⟨_,_,S0,fun A ρ₂ s₂ ys R2 hys hu=>by
     cases hys with
     |cons hz ht=>cases ht;exact qu0 R2 e2 hn q1 q2 hz⟩
   |ref l=>cases l with
    |inst c k=>
     refine qdu h fun hc h=>?_
     refine qc9 h fun ys' q2 h=>?_
     refine qcs h ?_
     exact⟨_,_,S0,fun A ρ₂ s₂ ys R2 hys hu=>by
      cases hys with
      |cons hz ht=>cases ht;exact qu1 F R2 e2 hc.1 hc.2 q2 hu hz⟩
    |_=>exact qa3 h
   |_=>exact qa3 h
  ·rw [if_neg hx2]at h';exact qa3 h'
theorem bmd_ok {n:Nat} {vs:List V} {r:V} {σ₂:St} (hr:qc8 (.ref (.dict n)) σ=true) (R:Rel S ρ σ s) (h:qym n x vs σ₂=some (r,σ')):Meth S ρ s x (.dict n) vs σ₂ r σ':=by
 refine qaj (recvD hr) fun xs0 e0=>?_
 refine qao (R.dictI e0) fun ps0 d0 _ _=>?_
 have B0: ∀id,Slot "dict" (Str.ofString x) id→typeOf (.builtin id)=pure (.type "method_descriptor")→BM s (.ref (ρ (.dict n))) (Str.ofString x) id "dict" :=fun id a b=>
  ⟨d0.mapOf.typeIs,PySem.F.plainAttrs_dict,a,b,d0.mapOf.noDict⟩
 clear hr e0 d0;refine qyv h fun kvs e2 h'=>?_;clear h
 by_cases hx:x="get"
 ·rw [if_pos hx]at h';subst hx;have S0:=B0 _ PySem.F.slot_dict_get PySem.F.type_dict_get
  clear B0;cases vs with
  |nil=>exact qa3 h'
  |cons u vr=>
   refine qhd h' fun k eu h=>?_;clear h';subst eu
   cases vr with
   |nil=>
    refine qcs h ?_
    exact⟨_,_,S0,fun A ρ₂ s₂ ys R2 hys hu=>by
     cases hys with
     |cons hz ht=>cases ht;exact qu2 R2 e2 hz⟩
   |cons dv vr=>cases vr with
    |nil=>
     refine qcs h ?_
     exact⟨_,_,S0,fun A ρ₂ s₂ ys R2 hys hu=>by
      cases hys with
      |cons hz ht=>cases ht with
       |cons hz2 ht=>cases ht;exact qu3 R2 e2 hz hz2⟩
    |cons=>exact qa3 h
 ·rw [if_neg hx]at h';by_cases hx2:x="pop"
  ·rw [if_pos hx2]at h';clear hx;subst hx2;refine qro h' fun u eu h=>?_;clear h';subst eu
   refine qhd h fun k ek h'=>?_;clear h;subst ek
   refine qc9 h' fun u hu0 h=>?_;clear h'
   refine qcs h ?_
   exact⟨_,_,B0 _ PySem.F.slot_dict_pop PySem.F.type_dict_pop,fun A ρ₂ s₂ ys R2 hys hu=>by
    cases hys with
    |cons hz ht=>cases ht;exact pop_ok R2 e2 hu0 hz⟩
  ·rw [if_neg hx2]at h';exact qa3 h'
theorem bm_ok (F:PF S P) {lo:Loc} {vs:List V} {r:V} {σ₂:St} (hr:qc8 (.ref lo) σ=true) (hi: ∀c n,lo≠ .inst c n) (R:Rel S ρ σ s) (h:qdz (.ref lo) x vs σ₂=some (r,σ')):Meth S ρ s x lo vs σ₂ r σ':=by
 cases lo with
 |inst c n=>exact absurd rfl (hi c n)
 |list n=>exact bml_ok F hr R h
 |dict n=>exact bmd_ok hr R h
 |_=>exact qa3 h
end
end Mine
end
noncomputable section
namespace Mine
open PySem PySem.Calls PyProof.Rows PySem.W
open Sem (wp)
theorem qpy {x:String} (h:x∉fieldNames): ∀{fs:List (String×V)},(∀p∈fs,p.1∈fieldNames)→qe7 x fs=none
 | [],_=>rfl
 |p::fs,hp=>by
  rw [qeq];rw [if_neg (fun q:p.1=x=>h (q ▸ hp p (.head _)))];exact qpy h fun q hq=>hp q (.tail _ hq)
section
variable {w:World} {S:qc5 prog w} {P:Fn→Option Def} {C:Calls} {d:Nat}
variable {sc:Scope} {A:Around} {env:Env} {l:Locs} {ρ ρ':Rho} {σ σ' σ₁:St} {s s' s₁:Shared} {e i a b c:PySem.Expr} {m mi ma mb mc:ME} {x:String} {pos np ap:Pos}
theorem k_meth {o:PySem.Expr} {name:Str} {es:List PySem.Expr} {ms:List ME} {Q:Value→Shared→Prop} (hb:attributeBase o name env (eval o env)=eval o env) (hl:(ap.endLine==pos.line)=true) (hn:es.length<29) (t:All2 (OK S C d sc) es ms)
  (h:qas (model prog w) A (eval o env) (fun ov s₁=> ∃f first,(∀Q':Value×List Value→Shared→Prop,∀pl,Q' (f,first) s₁→wpAny (model prog w) A (getMethod ov name pl) Q' (fun _ _=>False) s₁)∧
   qas (model prog w) A (spliced (es.map fun e=>(false,eval e env))) (fun vs s₂=>(∃k,(k= .frame∨k= .machine)∧ ∀Q',Q' k s₂→wpAny (model prog w) A (keeperOf f) Q' (fun _ _=>False) s₂)∧qas (model prog w) A (call f (first++vs) []) Q s₂) s₁) s):
  qas (model prog w) A (eval (.Call (.Attribute o name ap) es [] pos) env) Q s:=by
 rw [arm_eval_Call,hb,qfr t,qfs];refine qab (k_mono h fun ov s₁ ⟨f,first,hg,hr⟩=>qab (qcu ?_))
 have hform:methodCallForm (es.length+([]:List Keyword).length) (es.map fun e=>(false,eval e env)) (backToKw pos (keywordEach [] env))=true:=by
  unfold methodCallForm;have:(es.map fun e=>(false,eval e env)).all (fun x=> !x.1)=true:=by
   rw [List.all_eq_true];intro y hy;refine qac (List.mem_map.mp hy) fun z _ e0_2=>?_;subst e0_2
   rfl
  rw [this];show(true&&true&&decide (es.length+0+0<30))=true
  simp;(with_reducible exact Nat.lt_of_lt_of_le ‹_› (by decide))
 have hpos:methodCallPos true o env ap pos=pure pos:=by unfold methodCallPos;simp [hl]
 unfold methodCall;rw [hform];refine qab (qaw (qbu (hg _ _ ?_)))
 refine qab (qju hpos ?_)
 exact qgg qgj (qgf qgj (k_mono hr fun vs s₂ z=>⟨rfl,z⟩))
theorem qu4 (F:PF S P) (hC:qc7 F C d) {o:PySem.Expr} {mo:ME} {es:List PySem.Expr} {ms:List ME} (ho:qb1 (S:=S) C d sc o mo) (hb: ∀env,attributeBase o (Str.ofString x) env (eval o env)=eval o env) (hl:(ap.endLine==pos.line)=true) (hn:es.length<29) (t:All2 (OK S C d sc) es ms):
  qb1 (S:=S) C d sc (.Call (.Attribute o (Str.ofString x) ap) es [] pos) (.meth mo x ms):=fun A env l ρ σ s v σ' I h=>by
 refine qaq h fun u σ₁ h1 h=>?_
 split at h
 ·exact qa3 h
 ·rename_i hr
  refine qaq h fun vs σ₂ h2 h=>?_
  refine k_meth (hb env) hl hn t (qd6 (ho A env l ρ σ s _ _ I h1) fun ov s₁ ρ₁ p₁ hv=>?_)
  have I₁:=I.post p₁
  by_cases hin: ∃c n,u= .ref (.inst c n)
  ·refine qic hin fun c n e1_2=>?_;subst e1_2
   refine qa1 hv fun hlt e2_1=>?_;subst e2_1
   dsimp only at h;refine qa1 (hC _ _ _ _ _ h) fun hP hc=>?_
   refine qeg (F.meth c x hP) fun hfi hty hnf=>?_
   refine qcv (F.isFn _ hP) fun of fd hof hfd=>?_
   obtain⟨fs,hfs⟩: ∃fs,σ₁.heap (.inst c n)=some (.inst fs):=by
    unfold qc8 at hr;dsimp only at hr;split at hr
    ·exact⟨_,by assumption⟩
    ·cases hr
   obtain⟨ia,es',ep,ib,rr,_,hnames⟩:=I₁.r.inst hfs
   have hsh:=qpq rr x
   rw [qpy hnf hnames]at hsh;have sh:shadowIn (some {cls:= .type "dict",data:= .dict es' ep}) (Str.ofString x)=some false:=by
    unfold shadowIn lookIn;simp only [hsh,qtj rr];rfl
   refine⟨.ref (F.fA (.m c x)),[.ref (ρ₁ (.inst c n))],fun Q' pl q=>method_fn I₁.r.X (qhm ia ib) (F.cf c).ga (F.cf c).gt hfi hty sh q,?_⟩
   refine k_mono (qi0 t A env l ρ₁ σ₁ s₁ vs _ I₁ h2) fun ys s₂ ⟨ρ₂,p₂,hys⟩=>⟨⟨.frame,.inl rfl,fun Q' q=>?_⟩,?_⟩
   ·unfold keeperOf;refine wpAny_bind (wpAny_load (p₂.rel.base _ _ hof) ?_)
    rw [hfd];exact wpAny_pure q
   ·have hself:VR ρ₂ σ₂.next (.ref (.inst c n)) (.ref (ρ₁ (.inst c n))):=VR.mono (v:= .ref (.inst c n)) ⟨hlt,rfl⟩ p₂.agree p₂.le
    exact qgv (qcw (hc A ρ₂ s₂ (_::ys) I.b.cc p₂.rel (.cons hself hys)) fun r s₃ ⟨y,e,q⟩=>by subst e;exact q.after (p₁.trans p₂))
  ·cases u with
   |ref lo=>
    refine qa1 hv fun hlt e7_1=>?_;subst e7_1
    have h':qdz (.ref lo) x vs σ₂=some (v,σ'):=by
     cases lo with
     |inst c n=>exact absurd ⟨c,n,rfl⟩ hin
     |_=>exact h
    refine qcv (bm_ok F (lo:=lo) hr (fun c n q=>hin ⟨c,n,by rw [q]⟩) I₁.r h') fun id T B hk=>?_
    refine⟨.builtin id,[.ref (ρ₁ lo)],fun Q' pl q=>getMethod_builtin B.ty B.pa B.sl B.mt B.hd q,?_⟩
    refine k_mono (qi0 t A env l ρ₁ σ₁ s₁ vs _ I₁ h2) fun ys s₂ ⟨ρ₂,p₂,hys⟩=>⟨⟨.machine,.inr rfl,fun Q' q=>wpAny_pure q⟩,?_⟩
    have e:ρ₁ lo=ρ₂ lo:=(p₂.agree lo hlt).symm
    rw [e];refine qbu (wpAny_mono (hk A ρ₂ s₂ ys p₂.rel hys ?_) (fun r s₃ q=>q.after (p₁.trans p₂)) fun _ _ z=>z)
    have:=I.b.un
    exact Nat.lt_of_le_of_lt (Nat.succ_le_succ (oq2 (oq2 this))) (show 9701<cLine by decide)
   |_=>cases hr
end
end Mine
end
noncomputable section
namespace Mine
open PySem PySem.Calls PyProof.Rows PySem.W
open Sem (wp)
theorem qu5:typeLookup (.type "list_reverseiterator") "__len__" =pure none:=by rw [typeLookup_type,builtinLookup_eq_fast];kernel_rfl
theorem qr1:typeLookup (.type "list_reverseiterator") "__length_hint__" =pure (some (.builtin "list_reverseiterator.__length_hint__")):=by rw [typeLookup_type,builtinLookup_eq_fast];kernel_rfl
section
variable {w:World} {A:Around} {E:Value→Shared→Prop} {s:Shared} {r:Addr} {Q:Bool→Shared→Prop}
theorem qr2 (hT:s.TypeIs (.ref r) "list_reverseiterator") (h:Q false s):wpAny (model prog w) A (Builtin.List.listLengthHint (.ref r)) Q E s:=by
 unfold Builtin.List.listLengthHint;refine wpAny_bind (wpAny_specialOf hT qu5 ?_)
 refine wpAny_ite_split (fun hab=>absurd hab (by decide)) (fun _=>?_)
 refine wpAny_bind (wpAny_specialOf hT qr1 ?_)
 generalize hid:("list_reverseiterator.__length_hint__" :String)=id0
 wp_delta
 rw [show splitId id0=some ("list_reverseiterator","__length_hint__")from by subst hid;decide+kernel];subst hid;refine wpAny_bind (wpAny_isInstance (T:="list_reverseiterator") (b:=true) hT (by rw [isSubtype_type];kernel_rfl) ?_)
 refine wpAny_ite_split (fun hab=>absurd hab (by decide)) (fun _=>?_)
 refine wpAny_ite_split (fun _=>?_) (fun hab=>absurd (by decide+kernel) hab)
 refine wpAny_ite_split (fun hab=>absurd hab (by decide+kernel)) (fun _=>?_)
 exact wpAny_pure h
end
section
variable {w:World} {A:Around} {E:Value→Shared→Prop} {s:Shared} {r l:Addr} {items:Array Value}
theorem qn6 {R:Result→Shared→Prop} (hh:A.handled=none) (hit:s.heap.IsRevIter r l ((items.size:Int)- 1)) (hl:s.heap.IsList l items) (S:Addr) (hSr:S≠r) (hSl:S≠l) (hrl:l≠r) (res:Value) (c₀:Nat) (hS:s.heap.get? S=some {cls:= .type "list",data:= .seq #[] c₀})
  (hR: ∀h' tk acc' c',(∀b o,b≠S→b≠r→s.heap.get? b=some o→h'.get? b=some o)→h'.get? S=some {cls:= .type "list",dict:=none,data:= .seq acc' c',slots:= #[]}→ItemsOf (fun i v=>items[items.size- 1- i]? =some v) acc' items.size→R (.ok (.ret res)) {s with heap:=h',toks:=tk}) (hn:items.size≤sizeLine):
  wpAny (model prog w) A.in1 (Builtin.List.listExtendWith (.ref S) (.ref r) res)
   (fun fin s'=>match fin with| .done f=>R (.ok f) s'| .again c'=>c'.quiet=true∧codeAny (model prog w) A c' R s') (fun e s'=>R (.error e) s') s:=by
 have hSf:S∉ [r,l]:=by simp only [List.mem_cons,List.not_mem_nil,or_false,not_or];exact⟨hSr,hSl⟩
 have W:=Walks.listRev (prog:=prog) (w:=w) (A:=A.in1) hh r l hrl items
 have key: ∀(h:Heap) (c₁ tk:Nat),h.IsRevIter r l ((items.size:Int)- 1)→h.IsList l items→(∀b o,b≠S→s.heap.get? b=some o→h.get? b=some o)→
   h.get? S=some {cls:= .type "list",data:= .seq #[] c₁}→codeAny (model prog w) A (.builtin "list.extend.loop" ⟨[.ref S,.ref r,res],[]⟩) R {s with heap:=h,toks:=tk}:=by
  intro h c₁ tk h1 h2 hk hS₁;refine codeAny_extend_loopS W.toS hn S hSf res items.size 0 _ #[] c₁ rfl (Nat.zero_le _) ⟨Nat.zero_le _,by simpa using h1,h2⟩ hS₁ (ItemsOf.nil _) fun s' acc' c' hm hS' hacc=>?_
  rw [Moved.eq_with hm];refine hR s'.heap s'.toks acc' c' (fun b o hb hbr e=>hm.heap b o (fun hmem=>?_) (hk b o hb e)) hS' hacc
  rcases List.mem_cons.mp hmem with e'|hmem
  ·exact hb e'
  ·exact hbr (List.mem_singleton.mp hmem)
 unfold Builtin.List.listExtendWith;refine wpAny_bind (wpAny_typeOf (T:="list_reverseiterator") hit.typeIs ?_)
 have h1:Builtin.List.listSameRef (.ref S) (.ref r)=false:=by simp [Builtin.List.listSameRef,hSr]
 have h2:(Value.type "list_reverseiterator" ==Value.type "list")=false:=by decide
 have h3:(Value.type "list_reverseiterator" ==Value.type "tuple")=false:=by decide
 simp only [h1,h2,h3,Bool.or_false,Bool.false_eq_true,if_false];refine wpAny_bind (wpAny_pyIter_revIter hit ?_)
 refine wpAny_bind (wpAny_holding (qr2 hit.typeIs ?_))
 exact wpAny_pure ⟨plainId_quiet PySem.F.plain_extend_loop _,key _ c₀ _ hit hl (fun b o _ e=>e) hS⟩
theorem qj0 {Q:Value→Shared→Prop} (hh:A.handled=none) (hit:s.heap.IsRevIter r l ((items.size:Int)- 1)) (hl:s.heap.IsList l items) (hrl:l≠r) (hn:items.size≤sizeLine)
  (hQ: ∀h' tk acc' c',(∀b o,b≠r→s.heap.get? b=some o→h'.get? b=some o)→h'.get? s.heap.objs.size=some {cls:= .type "list",dict:=none,data:= .seq acc' c',slots:= #[]}→ItemsOf (fun i v=>items[items.size- 1- i]? =some v) acc' items.size→Q (.ref s.heap.objs.size) {s with heap:=h',toks:=tk}):
  wpAny (model prog w) A (call (.type "list") [.ref r]) Q E s:=by
 refine callType_codes (Q₁:=fun obj s₁=>obj= .ref s.heap.objs.size∧s₁= {s with heap:=s.heap.push {cls:= .type "list",data:= .seq #[]}}) PySem.F.called_list (PySem.F.typeCall_list_1 _) PySem.F.entry_list_init
  (code_list_new _ ⟨rfl,rfl⟩) fun obj s₁ h₁=>?_
 refine qa1 h₁ fun e0_0 e0_1=>?_;subst e0_0;subst e0_1
 have hS:(s.heap.push {cls:= .type "list",data:= .seq #[]}).get? s.heap.objs.size=some {cls:= .type "list",data:= .seq #[]}:=Heap.get?_push_size _ rfl
 have ltr:r<s.heap.objs.size:=by refine qac hit fun o ho _=>?_;exact Heap.lt_size ho
 have ltl:l<s.heap.objs.size:=by refine qac hl fun o ho _=>?_;exact Heap.lt_size ho
 refine⟨⟨_,hS,rfl⟩,PySem.F.args_list_init_2 _ _,?_⟩
 show wpAny _ _ (do let old ←Builtin.List.listItems (.ref s.heap.objs.size);Builtin.List.listUpdate (.ref s.heap.objs.size) (fun _=> #[]);letGo old.toList.reverse;Builtin.List.listExtendWith (.ref s.heap.objs.size) (.ref r) .none) _ _ _
 refine wpAny_bind ?_
 unfold Builtin.List.listItems;refine wpAny_bind (wpAny_seqItems hS rfl (wpAny_pure ?_))
 show wpAny _ _ (updateSeq s.heap.objs.size (fun _=> #[])>>=fun _=>letGo (#[]:Array Value).toList.reverse>>=fun _=>Builtin.List.listExtendWith (.ref s.heap.objs.size) (.ref r) .none) _ _ _
 refine wpAny_bind (wpAny_updateSeq hS rfl ?_)
 have hS₂:=Heap.get?_update_self (Obj.mapSeq (fun _=>(#[]:Array Value))) hS rfl
 have oth: ∀b o,s.heap.get? b=some o→((s.heap.push {cls:= .type "list",data:= .seq #[]}).update s.heap.objs.size (Obj.mapSeq (fun _=>(#[]:Array Value)))).get? b=some o:=
  fun b o e=>(Heap.get?_update_other _ _ (Nat.ne_of_gt (Heap.lt_size e))).trans (Heap.get?_push_of_some _ e)
 refine wpAny_bind (wpAny_letGo ?_)
 refine qn6 (A:=A.in1) hh (hit.at fun o e=>oth _ o e) (let⟨o,ho,x⟩:=hl;⟨o,oth _ _ ho,x⟩) _ (Nat.ne_of_gt ltr) (Nat.ne_of_gt ltl) hrl .none _ hS₂ (fun h' tk acc' c' hk hS' hacc=>?_) hn
 exact⟨rfl,hQ h' tk acc' c' (fun b o hb e=>hk b o (Nat.ne_of_lt (Heap.lt_size e)) hb (oth b o e)) hS' hacc⟩
end
end Mine
end
noncomputable section
namespace Mine
open PySem PySem.Calls PyProof.Rows PySem.W
open Sem (wp)
theorem qhn (i:Int): ∀l:List Int,(qns i l).Perm (i::l)
 | []=> .refl _
 |x::r=>by
  unfold qns;split
  ·exact .refl _
  ·exact((qhn i r).cons x).trans (.swap ..)
theorem sortI_perm: ∀l:List Int,(qei l).Perm l
 | []=> .refl _
 |x::r=>(qhn x _).trans ((sortI_perm r).cons x)
theorem qi2 (i:Int): ∀{l:List Int},l.Pairwise (· ≤ ·)→(qns i l).Pairwise (· ≤ ·)
 | [],_=> .cons (fun _ h=>by cases h) .nil
 |x::r,h=>by
  unfold qns;cases h with
  |cons h1 h2=>
   split
   ·rename_i hx
    refine .cons (fun y hy=>?_) (.cons h1 h2)
    rcases List.mem_cons.mp hy with rfl|hy
    ·exact hx
    ·exact Int.le_trans hx (h1 y hy)
   ·rename_i hx
    refine .cons (fun y hy=>?_) (qi2 i h2)
    rcases List.mem_cons.mp ((qhn i r).mem_iff.mp hy)with rfl|hy
    ·lia
    ·exact h1 y hy
theorem qho: ∀l:List Int,(qei l).Pairwise (· ≤ ·)
 | []=> .nil
 |x::r=>qi2 x (qho r)
noncomputable def biF:Bi→Value
 | .len=> .builtin "len" | .bytes=> .type "bytes" | .bytearray=> .type "bytearray" | .list=> .type "list" | .dict=> .type "dict" | .sorted=> .builtin "sorted"
 | .isInt=> .builtin "isinstance" | .listRange=> .type "list" | .listRev=> .type "list"
section
variable {w:World} {S:qc5 prog w} {P:Fn→Option Def} {C:Calls} {d:Nat}
variable {sc:Scope} {A:Around} {env:Env} {l:Locs} {ρ ρ':Rho} {σ σ' σ₁:St} {s s' s₁:Shared} {e i a b c:PySem.Expr} {m mi ma mb mc:ME} {x:String} {pos np ap:Pos}
theorem qcd (s:Shared) {k:Nat} (h:s.heap.objs.size≤k):s.heap.get? k=none:=by
 cases q:s.heap.get? k with
 |none=>rfl
 |some o=>exact absurd (Heap.lt_size q) (Nat.not_lt.mpr h)
theorem PV.listAt {vs:List V} {its:List Value} {h':Heap} {tk c:Nat} {a:Addr} (R:Rel S ρ σ s) (hk: ∀b o,s.heap.get? b=some o→h'.get? b=some o) (hn:s.heap.get? a=none)
  (hg:h'.get? a=some {cls:= .type "list",data:= .seq its.toArray c}) (h:All2 (VR ρ σ.next) vs its) (hl:vs.length≤200000):
  PV S ρ σ s (.ref (.list σ.next)) (σ.new .list (.list vs)) (.ref a) {s with heap:=h',toks:=tk}:=by
 have ag:=qbz (ρ:=ρ) (l:= .list σ.next) (a:=a) (k:=σ.next) rfl
 refine⟨qgs ρ (.list σ.next) a,Post.alloc1 (l:= .list σ.next) R rfl rfl (by rintro ⟨_,_,h⟩;cases h) hk hn ?_,?_⟩
 ·refine⟨its,⟨c,?_⟩,h.mono fun _ _ y=>y.mono ag (Nat.le_succ _),hl⟩
  rw [qa2];exact hg
 ·exact⟨Nat.lt_succ_self _,by rw [qa2]⟩
theorem qmk: ∀{is:List Int} {ys:List Value},All2 (VR ρ σ.next) (is.map .int) ys→IntsAre ys is
 | [],_,h=>by cases h;exact .nil
 |i::is,_,h=>by
  cases h with
  |cons h t=>
   refine qaj h fun t' e0_1=>?_;subst e0_1
   exact .cons _ _ (qmk t)
theorem ofInts {is:List Int} {ys:List Value} (h:IntsAre ys is):All2 (VR ρ σ.next) (is.map .int) ys:=by
 induction h with
 |nil=>exact .nil
 |cons n t _ ih=>exact .cons ⟨t,rfl⟩ ih
theorem bi_ok {bi:Bi} {vs:List V} {v:V} {ys:List Value} (R:Rel S ρ σ s) (hys:All2 (VR ρ σ.next) vs ys) (hg:A.guards=some []) (hh:A.handled=none)
  (hbi:bi≠ .isInt∧bi≠ .listRange∧bi≠ .listRev) (h:biV bi vs σ=some (v,σ')):qas (model prog w) A (call (biF bi) ys []) (PV S ρ σ s v σ') s:=by
 refine qro h fun u eu h'=>?_
 clear h;subst eu;cases hys with
 |cons hz ht=>
 cases ht
 cases bi with
 |len=>
  replace h':lenV u σ=some (v,σ'):=h'
  cases u with
  |bytes b=>
   refine qdu h' fun hl h=>?_;refine qcs h ?_
   refine qaj hz fun t e=>?_;subst e
   exact qbu (len_bytes (by simp;exact Nat.le_trans hl (by decide)) (.tok R ⟨s.toks+1,by simp⟩))
  |ref l=>
   refine qa1 hz fun hlt e=>?_;subst e
   cases l with
   |list n=>
    replace h':onL σ (.ref (.list n)) (fun _ vs=>some (.int vs.length,σ))=some (v,σ'):=h'
    refine qjq h' fun m vs ea e1 h=>?_;clear h';cases ea;refine qcs h ?_
    refine qao (R.list e1) fun its p r hl=>?_
    have e:its.toArray.size=_:=r.idx
    exact qbu (Calls.call_len_list p.isList (by rw [e];lia) (.tok R ⟨_,by rw [e]⟩))
   |barr n=>
    replace h':qkq σ (.ref (.barr n)) (fun b=>if b.length≤64 then some (.int b.length,σ)else none)=some (v,σ'):=h'
    refine qm8 h' fun m b ea e1 h=>?_;clear h';cases ea
    refine qdu h fun hl h=>?_;refine qcs h ?_
    have ho:=R.obj _ _ e1
    exact qbu (qy9 ho (by simpa using hl) fun k=> .tok R ⟨_,by simp;rfl⟩)
   |_=>exact qa3 h'
  |_=>exact qa3 h'
 |bytes=>
  replace h':qs6 u σ=some (v,σ'):=h'
  cases u with
  |bytes b=>
   refine qcs h' ?_
   refine qaj hz fun t e=>?_;subst e
   exact qbu (qmh fun k=> .tok R ⟨_,rfl⟩)
  |int i=>
   refine qdu h' fun hc h=>?_;refine qcs h ?_
   refine qaj hz fun t e=>?_;subst e
   exact qbu (qpm hc.2 hc.1 (by simp;lia) fun k=> .tok R ⟨s.toks,by simp⟩)
  |ref l=>
   refine qa1 hz fun hlt e=>?_;subst e
   cases l with
   |list n=>
    replace h':onL σ (.ref (.list n)) (fun _ vs=>match ints? vs with|some is=>(if(is.all fun i=>0≤i&&i<256)=true∧is.length≤64 then some (.bytes (is.map qkp),σ)else none)|none=>none)=some (v,σ'):=h'
    refine qjq h' fun m vs ea e1 h=>?_;clear h';cases ea
    cases hi:ints? vs with
    |none=>rw [hi]at h;exact qa3 h
    |some is=>
     rw [hi]at h;refine qdu h fun hc h=>?_;refine qcs h ?_
     refine qao (R.list e1) fun its p r hl=>?_
     have:=qd5 hi;subst this
     refine qbu (call_bytes_ints p.isList (qmk r) (fun n hn=>?_) (by simpa using qui r hl) hh fun h' t k hk=>?_)
     ·have:=List.all_eq_true.mp hc.1 n hn
      simpa using this
     ·exact .keep R hk ⟨t,rfl⟩
   |barr n=>
    replace h':qkq σ (.ref (.barr n)) (fun b=>if b.length≤64 then some (.bytes b,σ)else none)=some (v,σ'):=h'
    refine qm8 h' fun m b ea e1 h=>?_;clear h';cases ea
    refine qdu h fun hl h=>?_;refine qcs h ?_
    have ho:=R.obj _ _ e1
    exact qbu (qru ho (by simpa using hl) fun k=> .tok R ⟨_,rfl⟩)
   |_=>exact qa3 h'
  |_=>exact qa3 h'
 |bytearray=>
  refine qpb h' fun b eb h=>?_;clear h';subst eb
  refine qdu h fun hl h=>?_;refine qcs h ?_
  refine qaj hz fun t e=>?_;subst e
  refine qhj hg (by simp;exact Nat.le_trans hl (by decide)) fun a h' hk hn ha=>?_
  refine⟨qgs ρ (.barr σ.next) a,Post.alloc1 (l:= .barr σ.next) (tk:=s.toks) R rfl rfl (by rintro ⟨_,_,h⟩;cases h) hk hn ?_,?_⟩
  ·show h'.get? (qgs _ _ _ _)=_
   rw [qa2];exact ha
  ·exact⟨Nat.lt_succ_self _,by rw [qa2]⟩
 |isInt=>exact absurd rfl hbi.1
 |listRange=>exact absurd rfl hbi.2.1
 |listRev=>exact absurd rfl hbi.2.2
 |list=>
  refine qjq h' fun m vs ea e1 h=>?_;clear h';subst ea;refine qcs h ?_
  refine qa1 hz fun hlt e=>?_;subst e
  refine qao (R.list e1) fun its z r hl=>?_;refine qaj z fun m p=>?_
  exact qbu (call_list_seq _ (.inl rfl) p rfl rfl (fun h' c' hk hg'=>PV.listAt (tk:=s.toks) R hk (qcd s (Nat.le_refl _)) hg' r hl) (qui r hl))
 |sorted=>
  refine qjq h' fun m vs ea e1 h=>?_;clear h';subst ea
  cases hi:ints? vs with
  |none=>rw [hi]at h;exact qa3 h
  |some is=>
   rw [hi]at h;refine qdu h fun hc h=>?_;refine qcs h ?_
   refine qa1 hz fun hlt e=>?_;subst e
   refine qao (R.list e1) fun its p r hl=>?_
   have:=qd5 hi;subst this
   refine qbu (sorted_ints p.isList (qmk r) (by rw [r.idx];simpa using hc) fun out ns' a1 a2 a3=>?_)
   have:ns'=qei is:=a2.trans (sortI_perm is).symm|>.eq_of_pairwise (fun x y _ _ h1 h2=>Int.le_antisymm h1 h2) a3 (qho is)
   subst this;refine qaj (sortedAll_at s.heap its out) fun c hc'=>?_
   exact PV.listAt (its:=out.toList) (tk:=s.toks) R (fun b o e=>sortedAll_old e) (qcd s (Nat.le_succ _)) (by simpa [seqObj]using hc') (ofInts a1) (by simp [(sortI_perm is).length_eq];lia)
 |dict=>
  cases u with
  |ref l=>
   refine qa1 hz fun hlt e=>?_;subst e
   cases l with
   |dict n=>
    have h:(match σ.heap (.dict n)with|some (.dictI kvs)=>some (.ref (.dict σ.next),σ.new .dict (.dictI kvs))|_=>none)=some (v,σ'):=h'
    clear h';cases e1:σ.heap (.dict n)with
    |none=>rw [e1]at h;exact qa3 h
    |some o=>
     rw [e1]at h;cases o with
     |dictI kvs=>
      refine qcs h ?_
      refine qao (R.dictI e1) fun ps dd r hl=>?_
      have hz:ps.length≤sizeLine:=by rw [←r.length,sizeLine_eq];exact Nat.le_trans hl (by decide)
      have hs0:=R.notSys (l:= .dict n) (by simp [qdw,e1]) (by intro q;cases q)
      refine qbu (kt_call_dict hs0 dd hz fun h' hd hs=>?_)
      have ag:=qbz (ρ:=ρ) (l:= .dict σ.next) (a:=s.heap.objs.size) (k:=σ.next) rfl
      refine⟨qgs ρ (.dict σ.next) s.heap.objs.size,Post.alloc1 (l:= .dict σ.next) (tk:=s.toks) R rfl rfl (by rintro ⟨_,_,h⟩;cases h) (fun b o e=>(hs.2 b (Nat.ne_of_lt (Heap.lt_size e))).trans (Heap.get?_push_of_some _ e)) (qcd s (Nat.le_refl _)) ?_,?_⟩
      ·refine⟨ps,?_,r.mono fun _ _ y=>⟨y.1,y.2.mono ag (Nat.le_succ _)⟩,hl⟩
       rw [qa2];exact hd
      ·exact⟨Nat.lt_succ_self _,by rw [qa2]⟩
     |_=>exact qa3 h
   |_=>exact qa3 h'
  |_=>exact qa3 h'
end
end Mine
end
noncomputable section
namespace Mine
open PySem PySem.Calls PyProof.Rows PySem.W
open Sem (wp)
section
variable {w:World} {S:qc5 prog w} {P:Fn→Option Def} {C:Calls} {d:Nat}
variable {sc:Scope} {A:Around} {env:Env} {l:Locs} {ρ ρ':Rho} {σ σ' σ₁:St} {s s' s₁:Shared} {e i a b c:PySem.Expr} {m mi ma mb mc:ME} {x:String} {pos np ap np2 p2:Pos}
theorem qek {f:Str} {fv:Value} {es:List PySem.Expr} {Q:Value→Shared→Prop} (hst:starEach es env=es.map fun e=>(false,eval e env))
  (hf: ∀Q':Value→Shared→Prop,Q' fv s→qas (model prog w) A (eval (.Name f np) env) Q' s)
  (h:qas (model prog w) A (spliced (es.map fun e=>(false,eval e env))) (fun vs s₁=>(∃k,(k= .frame∨k= .machine)∧ ∀Q',Q' k s₁→wpAny (model prog w) A (keeperOf fv) Q' (fun _ _=>False) s₁)∧qas (model prog w) A (call fv vs []) Q s₁) s):
  qas (model prog w) A (eval (.Call (.Name f np) es [] pos) env) Q s:=by
 show qas _ _ (do callWith pos (←eval (.Name f np) env) [] (backTo pos (starEach es env)) []) _ _
 refine qab (hf _ ?_)
 rw [hst,qfs];exact qgg qgj (qgf qgj (k_mono h fun ys s₁ z=>⟨rfl,z⟩))
theorem qb2 {fv:Value} (h: ∀a,fv≠ .ref a): ∃k:Keeper,(k= .frame∨k= .machine)∧ ∀Q',Q' k s₁→wpAny (model prog w) A (keeperOf fv) Q' (fun _ _=>False) s₁:=by
 refine⟨.machine,.inr rfl,fun Q' q=>?_⟩
 cases fv with
 |ref a=>exact absurd rfl (h a)
 |_=>exact wpAny_pure q
structure Blt (F:PF S P) (sc:Scope) (x:String) (v:Value):Prop where
 k:sc.names.lookup (Str.ofString x)=some .globalImplicit
 d:(Str.ofString x==("__debug__" :Str))=false
 g:F.mg (Str.ofString x)=none
 b:F.mb (Str.ofString x)=some v
theorem Blt.ev {F:PF S P} {v:Value} (B:Blt F sc x v) (I:In_ S d A sc env l ρ σ s) {Q:Value→Shared→Prop} (h:Q v s):qas (model prog w) A (eval (.Name (Str.ofString x) np) env) Q s:=
 k_blt F I.e I.r B.k B.d B.g B.b h
theorem ev_bi {F:PF S P} {bi:Bi} {es:List PySem.Expr} {ms:List ME} (B:Blt F sc x (biF bi)) (hbi:bi≠ .isInt∧bi≠ .listRange∧bi≠ .listRev) (t:All2 (OK S C d sc) es ms):
  qb1 (S:=S) C d sc (.Call (.Name (Str.ofString x) np) es [] pos) (.bi bi ms):=fun A env l ρ σ s v σ' I h=>by
 refine qaq h fun vs σ₁ h1 h=>?_
 refine qek (qfr t env) (fun Q' q=>B.ev I q) (k_mono (qi0 t A env l ρ σ s vs _ I h1) fun ys s₁ ⟨ρ₁,p,hys⟩=>⟨qb2 (by intro a;cases bi<;>intro q<;>cases q),?_⟩)
 exact k_mono (bi_ok p.rel hys I.b.gd I.b.hd hbi h) fun y s₂ q=>q.after p
theorem qcx {es:List PySem.Expr} (h: ∀e∈es,∀x p,e≠ .Starred x p):starEach es env=es.map fun e=>(false,eval e env):=by
 induction es with
 |nil=>rfl
 |cons e es ih=>
  have:starEach (e::es) env=(false,eval e env)::starEach es env:=by
   cases e with
   |Starred x p=>exact absurd rfl (h _ (.head _) x p)
   |_=>rfl
  rw [this,ih fun e' h'=>h e' (.tail _ h')];rfl
theorem qr3 {F:PF S P} (B:Blt F sc "isinstance" (.builtin "isinstance")) (B2:Blt F sc "int" (.type "int")) (ha:OK S C d sc a ma):
  qb1 (S:=S) C d sc (.Call (.Name (Str.ofString "isinstance") np) [a,.Name (Str.ofString "int") np2] [] pos) (.bi .isInt [ma]):=fun A env l ρ σ s v σ' I h=>by
 refine qaq h fun vs σ₁ h1 h=>?_
 refine qaq h1 fun u σ₂ h2 h1=>?_
 refine qaq h1 fun us σ₃ h3 h1=>?_
 simp only [Option.some.injEq,Prod.mk.injEq]at h3 h1;obtain⟨rfl,rfl⟩:=h3
 refine qa1 h1 fun e1_0 e1_1=>?_;subst e1_0;subst e1_1
 refine qek (qcx ?_) (fun Q' q=>B.ev I q) (qbf (qd6 (ha.ev A env l ρ σ s _ _ I h2) fun y s₁ ρ₁ p hy=>qbf (B2.ev (I.post p) (qbw ⟨qb2 (by intro a q;cases q),?_⟩))))
 ·intro e he x p q;rcases List.mem_cons.mp he with rfl|he
  ·exact ha.noStar x p q
  ·rw [List.mem_singleton.mp he]at q;cases q
 ·cases u with
  |int i=>
   refine qaj hy fun t e2_1=>?_;subst e2_1
   first|refine qcs h ?_|cases h
   exact qbu (IsiPair.int_int ((PV.here (v:= .bool true) (y:= .bool true) p.rel rfl).after p))
  |bytes bs=>
   refine qaj hy fun t e3_1=>?_;subst e3_1
   first|refine qcs h ?_|cases h
   exact qbu (qpn fun k=>(PV.tok (v:= .bool false) (y:= .bool false) p.rel rfl).after p)
  |_=>exact qa3 h
structure Beside (s₀ s₁:Shared) (r:Addr):Prop where
 keep: ∀b o,s₀.heap.get? b=some o→s₁.heap.get? b=some o
 new:s₀.heap.get? r=none
 eq: ∃h tk,s₁= {s₀ with heap:=h,toks:=tk}
theorem Beside.post {F:Addr→Prop} {s₀:Shared} {r:Addr} (b:Beside s₀ s₁ r) (R:Rel S ρ σ s₀):Post S F ρ σ s₀ ρ σ s₁:=by
 refine qic b.eq fun h tk e4_2=>?_;subst e4_2
 exact .keeps R b.keep
theorem qj1 {F:PF S P} (B:Blt F sc "range" (.type "range")) (ha:OK S C d sc a ma) (I:In_ S d A sc env l ρ σ s) {k:Int} (h1:evE C l ma σ=some (.int k,σ₁)) {Q:Value→Shared→Prop}
  (K: ∀ρ₁ s₀ s₁ r t u v,Post S noF ρ σ s ρ₁ σ₁ s₀→Beside s₀ s₁ r→IsRange s₁.heap r 0 k 1 t u v→Q (.ref r) s₁):
  qas (model prog w) A (eval (.Call (.Name (Str.ofString "range") np) [a] [] pos) env) Q s:=by
 refine qek (qcx ?_) (fun Q' q=>B.ev I q) (qbf (qd6 (ha.ev A env l ρ σ s _ _ I h1) fun y s₀ ρ₁ p hy=>qbw ⟨qb2 (by intro a q;cases q),?_⟩))
 ·intro e he x p q;rw [List.mem_singleton.mp he]at q;exact ha.noStar x p q
 ·refine qaj hy fun t e5_1=>?_;subst e5_1
  exact qbu (call_range_1 (K ρ₁ s₀ _ _ _ _ _ p ⟨fun b o e=>Heap.get?_push_of_some _ e,qcd _ (Nat.le_refl _),_,_,rfl⟩ (Heap.get?_push_size _ rfl)))
theorem qr4 {F:PF S P} (B:Blt F sc "range" (.type "range")) (ha:OK S C d sc a ma) (hb:OK S C d sc b mb) (I:In_ S d A sc env l ρ σ s) {k j:Int} {σ₂:St} (h1:evE C l ma σ=some (.int k,σ₁)) (h2:evE C l mb σ₁=some (.int j,σ₂)) {Q:Value→Shared→Prop}
  (K: ∀ρ₁ s₀ s₁ r t u v,Post S noF ρ σ s ρ₁ σ₂ s₀→Beside s₀ s₁ r→IsRange s₁.heap r k j 1 t u v→Q (.ref r) s₁):
  qas (model prog w) A (eval (.Call (.Name (Str.ofString "range") np) [a,b] [] pos) env) Q s:=by
 refine qek (qcx ?_) (fun Q' q=>B.ev I q) (qbf (qd6 (ha.ev A env l ρ σ s _ _ I h1) fun y s₁ ρ₁ p hy=>qbf (qd6 (hb.ev A env l ρ₁ σ₁ s₁ _ _ (I.post p) h2) fun z s₂ ρ₂ p₂ hz=>qbw ⟨qb2 (by intro a q;cases q),?_⟩)))
 ·intro e he x p q;rcases List.mem_cons.mp he with rfl|he
  ·exact ha.noStar x p q
  ·rw [List.mem_singleton.mp he]at q;exact hb.noStar x p q
 ·refine qaj hy fun t e6_1=>?_;subst e6_1
  refine qaj hz fun t' e7_1=>?_;subst e7_1
  exact qbu (call_range_2 (K ρ₂ s₂ _ _ _ _ _ (p.trans p₂) ⟨fun b o e=>Heap.get?_push_of_some _ e,qcd _ (Nat.le_refl _),_,_,rfl⟩ (Heap.get?_push_size _ rfl)))
set_option tactic.hygienic true in
theorem qce {v:V} {vs:List V} (h:qav v σ=some vs): ∃n,v= .ref (.list n)∧σ.heap (.list n)=some (.list vs):=by
 unfold qav at h;split at h
 ·rename_i n
  split at h
  ·refine qct h ?_;exact⟨n,rfl,by assumption⟩
  ·exact qa3 h
 ·exact qa3 h
theorem qi3 {F:PF S P} (B:Blt F sc "reversed" (.type "reversed")) (ha:OK S C d sc a ma) (I:In_ S d A sc env l ρ σ s) {n:Nat} {vs:List V} (h1:evE C l ma σ=some (.ref (.list n),σ₁)) (h2:σ₁.heap (.list n)=some (.list vs)) {Q:Value→Shared→Prop}
  (K: ∀ρ₁ s₀ s₁ r,Post S noF ρ σ s ρ₁ σ₁ s₀→Beside s₀ s₁ r→s₁.heap.IsRevIter r (ρ₁ (.list n)) ((vs.length:Int)- 1)→Q (.ref r) s₁):
  qas (model prog w) A (eval (.Call (.Name (Str.ofString "reversed") np) [a] [] pos) env) Q s:=by
 refine qek (qcx ?_) (fun Q' q=>B.ev I q) (qbf (qd6 (ha.ev A env l ρ σ s _ _ I h1) fun y s₀ ρ₁ p hy=>qbw ⟨qb2 (by intro a q;cases q),?_⟩))
 ·intro e he x p q;rw [List.mem_singleton.mp he]at q;exact ha.noStar x p q
 ·refine qa1 hy fun _ e8_1=>?_;subst e8_1
  refine qao (p.rel.list h2) fun its pl r hl=>?_
  refine qbu (call_reversed_list pl.isList (K ρ₁ s₀ _ _ p ⟨fun b o e=>Heap.get?_push_of_some _ e,qcd _ (Nat.le_refl _),_,s₀.toks,rfl⟩ ?_))
  have e:its.toArray.size=vs.length:=r.idx
  rw [e];exact⟨_,Heap.get?_push_size _ rfl,rfl,rfl⟩
theorem qhp {F:PF S P} (B:Blt F sc "enumerate" (.type "enumerate")) (ha:OK S C d sc a ma) (I:In_ S d A sc env l ρ σ s) {n:Nat} {vs:List V} (h1:evE C l ma σ=some (.ref (.list n),σ₁)) (h2:σ₁.heap (.list n)=some (.list vs)) {Q:Value→Shared→Prop}
  (K: ∀ρ₁ s₀ s₁ r it,Post S noF ρ σ s ρ₁ σ₁ s₀→Beside s₀ s₁ r→s₀.heap.get? it=none→it≠r→IsEnum s₁.heap r it 0 .none→s₁.heap.IsListIter it (ρ₁ (.list n)) 0→Q (.ref r) s₁):
  qas (model prog w) A (eval (.Call (.Name (Str.ofString "enumerate") np) [a] [] pos) env) Q s:=by
 refine qek (qcx ?_) (fun Q' q=>B.ev I q) (qbf (qd6 (ha.ev A env l ρ σ s _ _ I h1) fun y s₀ ρ₁ p hy=>qbw ⟨qb2 (by intro a q;cases q),?_⟩))
 ·intro e he x p q;rw [List.mem_singleton.mp he]at q;exact ha.noStar x p q
 ·refine qa1 hy fun _ e10_1=>?_;subst e10_1
  refine qao (p.rel.list h2) fun its pl r hl=>?_
  exact qbu (call_enumerate_list pl.isList fun h' he hi hz hk=>K ρ₁ s₀ _ _ _ p ⟨hk,qcd _ (Nat.le_succ _),_,s₀.toks,rfl⟩ (qcd _ (Nat.le_refl _)) (Nat.ne_of_lt (Nat.lt_succ_self _)) he hi)
theorem qn7 {n:Nat} {a:Int} {acc:Array Value} (h:ItemsOf (fun i v=> ∃t,v=Value.int (a+i*1) t) acc n):All2 (VR ρ σ.next) ((List.range n).map fun(i:Nat)=>V.int (a+(i:Int))) acc.toList:=by
 refine qa1 h fun hz hi=>?_
 obtain⟨l⟩:=acc
 simp at hz hi
 subst hz;show All2 _ _ l
 have: ∀(l:List Value) (k:Nat),(∀(j:Nat) (v:Value),l[j]? =some v→ ∃t,v= .int (a+((k+j:Nat):Int)) t)→All2 (VR ρ σ.next) ((List.range' k l.length).map fun(i:Nat)=>V.int (a+(i:Int))) l:=by
  intro l
  induction l with
  |nil=>intro k _;exact .nil
  |cons v l ih=>
   intro k hk;rw [List.length_cons,List.range'_succ,List.map_cons];refine .cons ?_ (ih (k+1) fun j u hj=>?_)
   ·refine qaj (hk 0 v rfl) fun t e=>?_;exact⟨t,by simpa using e⟩
   ·refine qaj (hk (j+1) u (by simpa using hj)) fun t e=>?_
    refine⟨t,?_⟩
    rw [e];congr 2;push_cast;lia
 have:=this l 0 (fun j v hj=>by refine qaj (hi j v hj) fun t e=>?_;exact⟨t,by rw [e];simp⟩)
 rwa [←List.range_eq_range']at this
theorem qk3 {F:PF S P} (B:Blt F sc "list" (.type "list")) (B2:Blt F sc "range" (.type "range")) (ha:OK S C d sc a ma):
  qb1 (S:=S) C d sc (.Call (.Name (Str.ofString "list") np) [.Call (.Name (Str.ofString "range") np2) [a] [] p2] [] pos) (.bi .listRange [ma]):=fun A env l ρ σ s v σ' I h=>by
 refine qaq h fun vs σ₁ h1 h=>?_
 refine qaq h1 fun u σ₂ h2 h1=>?_
 refine qaq h1 fun us σ₃ h3 h1=>?_
 simp only [Option.some.injEq,Prod.mk.injEq]at h3 h1;obtain⟨rfl,rfl⟩:=h3
 refine qa1 h1 fun e18_0 e18_1=>?_;subst e18_0;subst e18_1
 replace h:onI u (fun k=>if 0≤k∧k≤1000 then newList (qbm 0 k) σ₂ else none)=some (v,σ'):=h
 refine qhd h fun k eu h9=>?_;clear h;subst eu
 refine qdu h9 fun hc h=>?_
 refine qcs h ?_
 refine qek (qcx (by intro e he x p q;rw [List.mem_singleton.mp he]at q;cases q)) (fun Q' q=>B.ev I q) (qbf (qj1 B2 ha I h2 fun ρ₁ s₀ s₁ r t u v p bs hr=>qbw ⟨qb2 (by intro a q;cases q),?_⟩))
 have p1:Post S noF ρ σ s ρ₁ σ₂ s₁:=p.trans (bs.post p.rel)
 refine qbu (call_list_range (n:=k.toNat) I.b.hd hr (small_one (by decide) (by decide) (by lia) (by lia)) (by rw [rangeSize_one];split<;>lia) (by lia) fun h' tk acc c' hk hg hi=>?_)
 have fr:=qn7 (ρ:=ρ₁) (σ:=σ₂) hi
 have e:qbm 0 k=(List.range k.toNat).map fun(i:Nat)=>V.int (0+(i:Int)):=by unfold qbm;simp
 rw [e];exact(PV.listAt (its:=acc.toList) p1.rel hk (qcd _ (Nat.le_refl _)) (by simpa using hg) fr (by simp;lia)).after p1
theorem qn8 {F:PF S P} (B:Blt F sc "list" (.type "list")) (B2:Blt F sc "reversed" (.type "reversed")) (ha:OK S C d sc a ma):
  qb1 (S:=S) C d sc (.Call (.Name (Str.ofString "list") np) [.Call (.Name (Str.ofString "reversed") np2) [a] [] p2] [] pos) (.bi .listRev [ma]):=fun A env l ρ σ s v σ' I h=>by
 refine qaq h fun vs σ₁ h1 h=>?_
 refine qaq h1 fun u σ₂ h2 h1=>?_
 refine qaq h1 fun us σ₃ h3 h1=>?_
 simp only [Option.some.injEq,Prod.mk.injEq]at h3 h1;obtain⟨rfl,rfl⟩:=h3
 refine qa1 h1 fun e20_0 e20_1=>?_;subst e20_0;subst e20_1
 replace h:onL σ₂ u (fun _ vs=>newList vs.reverse σ₂)=some (v,σ'):=h
 refine qjq h fun n vs eu e1 h9=>?_;clear h;subst eu
 refine qcs h9 ?_
 refine qek (qcx (by intro e he x p q;rw [List.mem_singleton.mp he]at q;cases q)) (fun Q' q=>B.ev I q) (qbf (qi3 B2 ha I h2 e1 fun ρ₁ s₀ s₁ r p bs hr=>qbw ⟨qb2 (by intro a q;cases q),?_⟩))
 have p1:Post S noF ρ σ s ρ₁ σ₂ s₁:=p.trans (bs.post p.rel)
 refine qao (p1.rel.list e1) fun its pl rr hl=>?_
 have ez:its.toArray.size=vs.length:=rr.idx
 have hrl:ρ₁ (.list n)≠r:=fun q=>by
  refine qaj (p.rel.cellThere (l:= .list n) (by simp [qdw,e1])) fun ob ho=>?_
  rw [q,bs.new]at ho;exact qa3 ho
 refine qbu (qj0 I.b.hd (by rw [ez];exact hr) pl.isList hrl (qui rr hl) fun h' tk acc c' hk hg hi=>?_)
 have e:acc.toList=its.reverse:=by
  refine qa1 hi fun hz hi=>?_
  apply List.ext_getElem?
  intro j;rw [Array.getElem?_toList];by_cases hj:j<acc.size
  ·have:=hi j acc[j] (Array.getElem?_eq_getElem hj)
   rw [Array.getElem?_eq_getElem hj,←this];rw [hz]at hj;rw [List.getElem?_reverse (by simpa using hj)];simp
  ·rw [Array.getElem?_eq_none (by lia),List.getElem?_eq_none (by simp;rw [hz]at hj;simpa using hj)]
 refine qic bs.eq fun h0 tk0 e24_2=>?_;subst e24_2
 refine(PV.listAt (its:=acc.toList) (tk:=tk) (h':=h') p.rel (fun b o eb=>hk b o (fun q=>by rw [q,bs.new]at eb;cases eb) (bs.keep b o eb)) ?_ (by simpa using hg) (by rw [e];exact rr.reverse) (by simpa using hl)).after p
 cases q:s₀.heap.get? h0.objs.size with
 |none=>rfl
 |some o=>exact absurd (Heap.lt_size (bs.keep _ _ q)) (Nat.lt_irrefl _)
end
end Mine
end
noncomputable section
namespace Mine
open PySem PySem.Calls PyProof.Rows PySem.W
open Sem (wp)
section
variable {w:World}
noncomputable def PS (S:qc5 prog w) (env:Env) (ρ:Rho) (σ:St) (s:Shared) (fl:MFl) (l':Locs) (σ':St) (f:PySem.Flow) (s':Shared):Prop:=
 ∃ρ',Post S (FrA env) ρ σ s ρ' σ' s'∧FR S ρ' σ' env l' s'.heap∧(match fl with| .next=>f= .next| .ret v=> ∃y,f= .ret y∧VR ρ' σ'.next v y)
variable {S:qc5 prog w} {P:Fn→Option Def} {C:Calls} {d:Nat}
variable {sc:Scope} {A:Around} {env:Env} {l l' l₁:Locs} {ρ ρ' ρ₁:Rho} {σ σ' σ₁:St} {s s' s₁:Shared} {e i a b c:PySem.Expr} {m mi ma mb mc:ME} {x:String} {pos np ap np2 p2:Pos}
variable (S C d) in
noncomputable def qey (sc:Scope) (st:Stmt) (ms:MS):Prop:= ∀A env l ρ σ s fl l' σ',In_ S d A sc env l ρ σ s→evS C ms l σ=some (fl,l',σ')→qas (model prog w) A (exec st env) (PS S env ρ σ s fl l' σ') s
variable (S C d) in
noncomputable def qfb (sc:Scope) (st:List Stmt) (ms:List MS):Prop:= ∀A env l ρ σ s fl l' σ',In_ S d A sc env l ρ σ s→qbk C ms l σ=some (fl,l',σ')→qas (model prog w) A (execs st env) (PS S env ρ σ s fl l' σ') s
theorem Post.fr (p:Post S noF ρ σ s ρ' σ' s'):Post S (FrA env) ρ σ s ρ' σ' s':=p.weak fun _ _ _ h=>h.elim
theorem PS.after {fl:MFl} {f:PySem.Flow} {s₂:Shared} {σ₂:St} (p:Post S (FrA env) ρ σ s ρ₁ σ₁ s₁) (h:PS S env ρ₁ σ₁ s₁ fl l' σ₂ f s₂):PS S env ρ σ s fl l' σ₂ f s₂:=
 let⟨ρ₂,q,r⟩:=h;⟨ρ₂,p.trans q,r⟩
theorem In_.go (I:In_ S d A sc env l ρ σ s) (p:Post S (FrA env) ρ σ s ρ₁ σ₁ s₁) (f:FR S ρ₁ σ₁ env l₁ s₁.heap):In_ S d A sc env l₁ ρ₁ σ₁ s₁:=⟨I.b,I.e,p.rel,f⟩
theorem In_.psNext (I:In_ S d A sc env l ρ σ s) (p:Post S noF ρ σ s ρ₁ σ₁ s₁):PS S env ρ σ s .next l σ₁ .next s₁:=⟨ρ₁,p.fr,I.f.post p qfn,rfl⟩
theorem qu6:qfb S C d sc [] []:=fun A env l ρ σ s fl l' σ' I h=>by
 refine qkm h ?_
 exact qbu (wpAny_execs_nil (I.psNext (.refl I.r)))
theorem qk4 {st:Stmt} {rest:List Stmt} {Q:PySem.Flow→Shared→Prop}
  (h:qas (model prog w) A (exec st env) (fun f s'=>match f with| .next=>qas (model prog w) A (execs rest env) Q s'|f=>Q f s') s):qas (model prog w) A (execs (st::rest) env) Q s:=fun Γ p hΓ hc=>by
 rw [execs_cons,Sem.wp_bind'];refine Sem.wp_mono _ Γ _ (fun f p' s' h'=>?_) (fun _ _ _ h'=>h') _ _ (h Γ p hΓ hc)
 cases f<;>first|exact h' Γ p' hΓ hc|exact h'
theorem qr5 {st:Stmt} {rest:List Stmt} {ms:MS} {mr:List MS} (h1:qey S C d sc st ms) (h2:qfb S C d sc rest mr):qfb S C d sc (st::rest) (ms::mr):=fun A env l ρ σ s fl l' σ' I h=>by
 simp only [qbk]at h;refine qk4 ?_
 cases q:evS C ms l σ with
 |none=>rw [q]at h;exact qa3 h
 |some r=>
  obtain⟨f1,l1,σ1⟩:=r
  rw [q]at h;refine k_mono (h1 A env l ρ σ s f1 l1 σ1 I q) fun f s₁ ⟨ρ₁,p,fr,hf⟩=>?_
  cases f1 with
  |next=>
   subst hf;exact k_mono (h2 A env l1 ρ₁ σ1 s₁ fl l' σ' (I.go p fr) h) fun f s₂ z=>z.after p
  |ret v=>
   simp only [qjp,Option.some.injEq,Prod.mk.injEq]at h;refine qeg h fun e2_0 e2_1 e2_2=>?_;subst e2_0;subst e2_1;subst e2_2
   refine qac hf fun y e3_1 hy=>?_;subst e3_1
   exact⟨ρ₁,p,fr,y,rfl,hy⟩
theorem st_ret (he:qb1 (S:=S) C d sc e m):qey S C d sc (.Return (some e) pos) (.ret m):=fun A env l ρ σ s fl l' σ' I h=>by
 refine qba h fun v σ₁ h1 h=>?_
 refine qkm h ?_
 rw [exec_Return_some];exact qab (qcu (qd1 (he A env l ρ σ s v _ I h1) fun y s₁ ρ₁ p hy=>qad ⟨ρ₁,p.fr,I.f.post p qfn,y,rfl,hy⟩))
theorem qn9:qey S C d sc (.Return none pos) .retNone:=fun A env l ρ σ s fl l' σ' I h=>by
 refine qkm h ?_
 rw [exec_Return_none];exact qab (qcu (qad ⟨ρ,.refl I.r,I.f,.none,rfl,rfl⟩))
theorem st_if {bs cs:List Stmt} {mbs mcs:List MS} (ha:OK S C d sc a ma) (hb:qfb S C d sc bs mbs) (hc:qfb S C d sc cs mcs):qey S C d sc (.If a bs cs pos) (.ifs ma mbs mcs):=fun A env l ρ σ s fl l' σ' I h=>by
 refine qba h fun v σ₁ h1 h=>?_
 refine qif h fun r eb h=>?_;subst eb
 rw [exec_If];refine qab (qcu (qab (k_mono (ha.ts A env l ρ σ s r σ₁ I h1) fun y s₁ ⟨hy,ρ₁,p⟩=>?_)))
 subst hy;cases y with
 |true=>exact k_mono (hb A env l ρ₁ σ₁ s₁ fl l' σ' (I.post p) h) fun f s₂ z=>z.after p.fr
 |false=>exact k_mono (hc A env l ρ₁ σ₁ s₁ fl l' σ' (I.post p) h) fun f s₂ z=>z.after p.fr
theorem EnvFor.notInter (e:EnvFor sc env):interactive env=false:=by unfold interactive;rw [e.kind];rfl
theorem qu7 {f:PySem.Expr} {es:List PySem.Expr} {ks:List Keyword} {cp:Pos} (he:qb1 (S:=S) C d sc (.Call f es ks cp) m):qey S C d sc (.Expr (.Call f es ks cp) pos) (.expr m):=fun A env l ρ σ s fl l' σ' I h=>by
 refine qba h fun v σ₁ h1 h=>?_
 refine qkm h ?_
 rw [exec_Expr env _ _ I.e.notInter rfl];exact qab (qcu (qd1 (he A env l ρ σ s v _ I h1) fun y s₁ ρ₁ p hy=>qbu (wpAny_dropValue (I.psNext p))))
theorem qoa (hx:qbi sc (Str.ofString x)=true) (hs: ∀env t,swapsWith e (some t) pos.line env=pure false) (he:qb1 (S:=S) C d sc e m):qey S C d sc (.Assign [.Name (Str.ofString x) np] e pos) (.asgVar x m):=fun A env l ρ σ s fl l' σ' I h=>by
 refine qba h fun v σ₁ h1 h=>?_
 refine qkm h ?_
 have hk:env.kindOf (Str.ofString x)=some .local∨env.kindOf (Str.ofString x)=some .cell:=by
  unfold qbi at hx;split at hx
  ·rename_i q;exact .inl (I.e.loc _ q)
  ·rename_i q;exact .inr (I.e.cell _ q)
  ·cases hx
 rw [exec_Assign_Name env _ _ _ _ (hs env _)];refine qab (qcu (qd1 (he A env l ρ σ s v _ I h1) fun y s₁ ρ₁ p hy=>qab (qcu (qab (qbu (wpAny_bindName (qd0 p.rel (I.f.post p qfn) I.e.kind hk hy fun s₂ p₂ f₂=>?_)))))))
 exact qad ⟨ρ₁,p.fr.trans p₂,f₂,rfl⟩
theorem qob (F:PF S P) (ha:qb1 (S:=S) C d sc a ma) (he:qb1 (S:=S) C d sc e m):qey S C d sc (.Assign [.Attribute a (Str.ofString x) np] e pos) (.asgAttr ma x m):=fun A env l ρ σ s fl l' σ' I h=>by
 refine qba h fun v σ₁ h1 h=>?_
 refine qba h fun u σ₂ h2 h=>?_
 refine ql8 h fun σ₃ h3 h=>?_
 refine qkm h ?_
 have hs:swapsWith e (some (.Attribute a (Str.ofString x) np)) pos.line env=pure false:=by
  unfold swapsWith;cases e<;>rfl
 rw [plainObj_exec_Assign_Attribute _ _ _ _ _ hs];simp only [assign_Attribute];refine qab (qcu (qd1 (he A env l ρ σ s v _ I h1) fun y s₁ ρ₁ p hy=>qab ?_))
 refine qe3 (ha A env l ρ₁ σ₁ s₁ u _ (I.post p) h2) fun z s₂ ρ₂ p₂ hz=>qab (qcu (qnb (qbu (qiy F.cf p₂.rel hz (hy.mono p₂.agree p₂.le) h3)) fun _ s₃ ρ₃ p₃=>qbu (wpAny_release ?_)))
 exact qad (I.psNext ((p.trans p₂).trans p₃))
theorem qoc (hi: ∀a b p,i≠ .Slice a b none p) (ha:qb1 (S:=S) C d sc a ma) (hk:qb1 (S:=S) C d sc i mi) (he:qb1 (S:=S) C d sc e m):qey S C d sc (.Assign [.Subscript a i np] e pos) (.asgItem ma mi m):=fun A env l ρ σ s fl l' σ' I h=>by
 refine qba h fun v σ₁ h1 h=>?_
 refine qba h fun u σ₂ h2 h=>?_
 refine qba h fun k σ₃ h3 h=>?_
 refine ql8 h fun σ₄ h4 h=>?_
 refine qkm h ?_
 have hs:swapsWith e (some (.Subscript a i np)) pos.line env=pure false:=by
  unfold swapsWith;cases e<;>rfl
 rw [exec_Assign_Subscript _ _ _ _ _ hs];simp only [assign_Subscript];refine qab (qcu (qd1 (he A env l ρ σ s v _ I h1) fun y s₁ ρ₁ p hy=>qab ?_))
 refine qe3 (ha A env l ρ₁ σ₁ s₁ u _ (I.post p) h2) fun z s₂ ρ₂ p₂ hz=>qe3 (hk A env l ρ₂ σ₂ s₂ k _ (I.post (p.trans p₂)) h3) fun kk s₃ ρ₃ p₃ hkk=>?_
 have p23:=p₂.trans p₃
 refine qab (qcu (qnb (qbu (qiv p₃.rel (hz.mono p₃.agree p₃.le) hkk (hy.mono p23.agree p23.le) h4)) fun _ s₄ ρ₄ p₄=>qbu (wpAny_release ?_)))
 exact qad (I.psNext ((p.trans p23).trans p₄))
theorem qtp {op:Op} {u v r:V} {y z:Value} (R:Rel S ρ σ s) (hy:VR ρ σ.next u y) (hz:VR ρ σ.next v z) (h:qre op u v=some r):wpAny (model prog w) A (inplaceOp (opT op) y z) (PV S ρ σ s r σ) nE s:=by
 unfold qre at h;split at h
 ·refine qct h ?_;refine qaj hy fun t e5_1=>?_;subst e5_1;refine qaj hz fun t' e6_1=>?_;subst e6_1
  exact wpAny_iadd_int (.int R)
 ·refine qct h ?_;refine qaj hy fun t e7_1=>?_;subst e7_1;refine qaj hz fun t' e8_1=>?_;subst e8_1
  exact PySem.P.isub_int (.int R)
 ·exact qa3 h
theorem qod (F:PF S P) {op:Op} {o:Operator} (ho:cOp o=some op) (ha:qb1 (S:=S) C d sc a ma) (he:qb1 (S:=S) C d sc e m):qey S C d sc (.AugAssign (.Attribute a (Str.ofString x) np) o e pos) (.augAttr ma x op m):=fun A env l ρ σ s fl l' σ' I h=>by
 refine qba h fun u σ₁ h1 h=>?_
 refine qc9 h fun v0 h2 h=>?_
 refine qba h fun v σ₂ h3 h=>?_
 refine qc9 h fun r h4 h=>?_
 refine ql8 h fun σ₃ h5 h=>?_
 refine qkm h ?_
 have eo:o=opT op:=qpd ho
 subst eo;rw [arm_exec_AugAssign_2];refine qab (qcu (qd1 (ha A env l ρ σ s u _ I h1) fun ov s₁ ρ₁ p hov=>qab (qaw (qab (qcu (qy7 (qpr F.cf p.rel hov h2) fun old s₂ ρ₂ p₂ hold=>?_))))))
 refine qe3 (he A env l ρ₂ σ₁ s₂ v _ (I.post (p.trans p₂)) h3) fun vv s₃ ρ₃ p₃ hvv=>qab (qcu (qhh (qbu (wpAny_mono (qtp p₃.rel (hold.mono p₃.agree p₃.le) hvv h4) (fun nw s₄ ⟨ρ₄,p₄,hnw⟩=>?_) fun _ _ z=>z))))
 have p24:=(p₂.trans p₃).trans p₄
 refine qab (qcu (qpj (qiy F.cf p₄.rel (hov.mono p24.agree p24.le) hnw h5) fun _ s₅ ρ₅ p₅=>?_))
 exact qbc (wpAny_release (qad (I.psNext ((p.trans p24).trans p₅))))
theorem qoe {u k r:V} {y z:Value} (R:Rel S ρ σ s) (hy:VR ρ σ.next u y) (hz:VR ρ σ.next k z) (h:qgc u k σ=some r):wpAny (model prog w) A (getItem y z) (PV S ρ σ s r σ) nE s:=by
 refine qfj (qpg (A:=A) R hy hz h) fun T id _ _ hg=>?_
 exact hg
theorem qof {op:Op} {o:Operator} (hi: ∀a b p,i≠ .Slice a b none p) (ho:cOp o=some op) (ha:qb1 (S:=S) C d sc a ma) (hk:qb1 (S:=S) C d sc i mi) (he:qb1 (S:=S) C d sc e m):qey S C d sc (.AugAssign (.Subscript a i np) o e pos) (.augItem ma mi op m):=fun A env l ρ σ s fl l' σ' I h=>by
 refine qba h fun u σ₁ h1 h=>?_
 refine qba h fun k σ₂ h2 h=>?_
 refine qc9 h fun v0 h3 h=>?_
 refine qba h fun v σ₃ h4 h=>?_
 refine qc9 h fun r h5 h=>?_
 refine ql8 h fun σ₄ h6 h=>?_
 refine qkm h ?_
 have eo:o=opT op:=qpd ho
 subst eo;rw [arm_exec_AugAssign_3];refine qab (qcu (qd1 (ha A env l ρ σ s u _ I h1) fun ov s₁ ρ₁ p hov=>qe3 (hk A env l ρ₁ σ₁ s₁ k _ (I.post p) h2) fun iv s₂ ρ₂ p₂ hiv=>?_))
 have hov2:=hov.mono p₂.agree p₂.le
 refine qab (qaw (qab (qcu (qy7 (qoe p₂.rel hov2 hiv h3) fun old s₃ ρ₃ p₃ hold=>?_))))
 refine qe3 (he A env l ρ₃ σ₂ s₃ v _ (I.post ((p.trans p₂).trans p₃)) h4) fun vv s₄ ρ₄ p₄ hvv=>qab (qcu (qhh (qbu (wpAny_mono (qtp p₄.rel (hold.mono p₄.agree p₄.le) hvv h5) (fun nw s₅ ⟨ρ₅,p₅,hnw⟩=>?_) fun _ _ z=>z))))
 have p35:=(p₃.trans p₄).trans p₅
 refine qab (qcu ?_)
 have e:augStore i ov iv nw=(do holding [nw,ov,iv] (setItem ov iv nw);release [nw,ov,iv] [];pure .next):=by
  unfold augStore;split
  ·exact absurd rfl (hi _ _ _)
  ·rfl
 rw [e];refine qpj (qiv p₅.rel (hov2.mono p35.agree p35.le) (hiv.mono p35.agree p35.le) hnw h6) fun _ s₆ ρ₆ p₆=>?_
 exact qbc (wpAny_release (qad (I.psNext (((p.trans p₂).trans p35).trans p₆))))
theorem st_del (ha:qb1 (S:=S) C d sc a ma) (hk:qb1 (S:=S) C d sc i mi):qey S C d sc (.Delete [.Subscript a i np] pos) (.delItem ma mi):=fun A env l ρ σ s fl l' σ' I h=>by
 refine qba h fun u σ₁ h1 h=>?_
 refine qba h fun k σ₂ h2 h=>?_
 refine ql8 h fun σ₃ h3 h=>?_
 refine qkm h ?_
 rw [arm_exec_Delete];show qas _ _ (standAt pos>>=fun _=>((do let ov ←eval a env;let iv ←holding [ov] (eval i env);standAt np;holding [ov,iv] (delItem ov iv);release [ov,iv] [])>>=fun _=>(pure ():Sem Unit))>>=fun _=>pure PySem.Flow.next) _ _
 refine qab (qcu (qab (qab (qd1 (ha A env l ρ σ s u _ I h1) fun ov s₁ ρ₁ p hov=>qe3 (hk A env l ρ₁ σ₁ s₁ k _ (I.post p) h2) fun iv s₂ ρ₂ p₂ hiv=>?_))))
 refine qab (qcu (qpj (qnw p₂.rel (hov.mono p₂.agree p₂.le) hiv h3) fun _ s₃ ρ₃ p₃=>?_))
 exact qbu (wpAny_release (qad (qad (I.psNext ((p.trans p₂).trans p₃)))))
theorem st_try {bs:List Stmt} {hs:List ExceptHandler} {mbs:List MS} (hb:qfb S C d sc bs mbs):qey S C d sc (.Try bs hs [] [] pos) (.tryB mbs):=fun A env l ρ σ s fl l' σ' I h=>by
 rw [arm_exec_Try];refine qab (qcu ?_)
 unfold tryStmt;refine qfo rfl (qab ?_)
 refine qkx (k_mono (hb A env l ρ σ s fl l' σ' I h) fun f s₁ z=>?_)
 cases f with
 |next=>exact qbu (wpAny_execs_nil z)
 |_=>exact qad z
end
end Mine
end
noncomputable section
namespace Mine
open PySem PySem.Calls PyProof.Rows PySem.W
open Sem (wp)
section
variable {w:World} {S:qc5 prog w} {P:Fn→Option Def} {C:Calls} {d:Nat}
variable {sc:Scope} {A:Around} {env:Env} {l l' l₁:Locs} {ρ ρ' ρ₁:Rho} {σ σ' σ₁:St} {s s' s₁:Shared} {e i a b c:PySem.Expr} {m mi ma mb mc:ME} {x:String} {pos np ap np2 p2:Pos}
theorem qml {i j:Int} {n:Nat} (h0:0≤i) (h1:i≤j) (h2:j≤n):sliceBounds (some i) (some j) none n=(i,j,1):=by
 unfold sliceBounds;simp only [Option.getD_none,show(1:Int)>0 by decide,if_true];rw [if_neg (by lia),if_neg (by lia)];congr 1
 ·lia
 ·congr 1;lia
set_option tactic.hygienic true in
theorem qhq {u v:V} {lo hi:Option Int} {y z:Value} {sl:Addr} {p q:Value} (R:Rel S ρ σ s) (hg:A.guards=some []) (hu:VR ρ σ.next u y) (hv:VR ρ σ.next v z) (hs:s.heap.IsSliceOf sl p q .none) (hp:IsPart p lo) (hq:IsPart q hi)
  (hb:(lo=none∧hi=none)∨ ∃i j,lo=some i∧hi=some j) (h:qcg u lo hi v σ=some σ'):
  qas (model prog w) A (setItem y (.ref sl) z) (fun _=>PU S ρ σ s σ') s:=by
 unfold qcg at h;split at h
 ·rename_i n bs
  refine qa1 hu fun _ e0_1=>?_;subst e0_1;refine qaj hv fun t e1_1=>?_;subst e1_1
  split at h
  ·rename_i old e1
   dsimp only at h;refine qdu h fun hc h=>?_
   first|refine qcs h ?_|cases h
   have ho:s.heap.get? (ρ (.barr n))=some {cls:= .type "bytearray",data:= .bytearray old.toArray 0}:=R.obj _ _ e1
   have key: ∃i j:Int,0≤i∧i≤j∧j≤old.length∧lo.getD 0=i∧hi.getD old.length=j∧sliceBounds lo hi none old.toArray.size=(i,j,1):=by
    rcases hb with⟨rfl,rfl⟩|⟨i,j,rfl,rfl⟩
    ·exact⟨0,old.length,by(with_reducible exact Int.le_refl _),by(with_reducible exact Int.natCast_nonneg _),by(with_reducible exact Int.le_refl _),rfl,rfl,by rw [List.size_toArray];rfl⟩
    ·simp only [Option.getD_some]at hc;exact⟨i,j,hc.1,hc.2.1,hc.2.2.1,rfl,rfl,by rw [List.size_toArray];exact qml hc.1 hc.2.1 hc.2.2.1⟩
   refine qyc key fun i j h0 h1 h2 hi' hj' hbd=>?_
   rw [hi',hj']at hc;refine qn2 hg ho hs hp hq (by rw [List.size_toArray];lia) (by rw [List.size_toArray];lia) (by rw [hbd,List.size_toArray];dsimp only;lia) (by rw [hbd]) fun h' tk hk hget=>⟨ρ,?_⟩
   rw [hbd]at hget;dsimp only at hget;have em:max i j=j:=by lia
   rw [em]at hget;rw [hi',hj'];have ex:(old.toArray.extract 0 i.toNat++bs.toArray++old.toArray.extract j.toNat old.toArray.size)=(old.take i.toNat++bs++old.drop j.toNat).toArray:=by
    simp
    exact List.take_of_length_le (by simp)
   rw [ex]at hget;have clc:qdw σ (.barr n):=by simp [qdw,e1]
   exact Post.storeU R e1 (lc:= .barr n) (by simp [qal]) (by intro q;cases q) (fun c o hc' ho'=>hk c o hc' ho') hget
  ·exact qa3 h
 ·exact qa3 h
theorem qk5 (ha:qb1 (S:=S) C d sc a ma) (he:qb1 (S:=S) C d sc e m):qey S C d sc (.Assign [.Subscript a (.Slice none none none p2) np] e pos) (.asgSlice ma none none m):=fun A env l ρ σ s fl l' σ' I h=>by
 refine qba h fun v σ₁ h1 h=>?_
 refine qba h fun u σ₂ h2 h=>?_
 refine ql8 h fun σ₄ h4 h=>?_
 refine qkm h ?_
 have hs:swapsWith e (some (.Subscript a (.Slice none none none p2) np)) pos.line env=pure false:=by
  unfold swapsWith;cases e<;>rfl
 rw [exec_Assign_Subscript _ _ _ _ _ hs];simp only [assign_Subscript];refine qab (qcu (qd1 (he A env l ρ σ s v _ I h1) fun y s₁ ρ₁ p hy=>qab ?_))
 refine qe3 (ha A env l ρ₁ σ₁ s₁ u _ (I.post p) h2) fun z s₂ ρ₂ p₂ hz=>qab (qaw (qjz (qad (qad ?_))))
 have p₃:Post S noF ρ₂ σ₂ s₂ ρ₂ σ₂ {s₂ with heap:=s₂.heap.push {cls:= .type "slice",data:= .fields #[.none,.none,.none]}}:= .keeps (tk:=s₂.toks) p₂.rel fun b o e=>Heap.get?_push_of_some _ e
 refine qab (qcu (qnb (qhq p₃.rel I.b.gd hz (hy.mono p₂.agree p₂.le) (Heap.IsSliceOf.new s₂.heap .none .none .none) .none .none (.inl ⟨rfl,rfl⟩) h4) fun _ s₄ ρ₄ p₄=>qbu (wpAny_release ?_)))
 exact qad (I.psNext (((p.trans p₂).trans p₃).trans p₄))
set_option tactic.hygienic true in
theorem qk6 (ha:qb1 (S:=S) C d sc a ma) (hb:qb1 (S:=S) C d sc b mb) (hc:qb1 (S:=S) C d sc c mc) (he:qb1 (S:=S) C d sc e m):qey S C d sc (.Assign [.Subscript a (.Slice (some b) (some c) none p2) np] e pos) (.asgSlice ma (some mb) (some mc) m):=fun A env l ρ σ s fl l' σ' I h=>by
 refine qba h fun v σ₁ h1 h=>?_
 refine qba h fun u σ₂ h2 h=>?_
 refine qba h fun i σ₃ h3 h=>?_
 refine qba h fun j σ₅ h5 h=>?_
 split at h
 ·rename_i i1 j1 _
  refine ql8 h fun σ₄ h4 h=>?_
  refine qkm h ?_
  have hs:swapsWith e (some (.Subscript a (.Slice (some b) (some c) none p2) np)) pos.line env=pure false:=by
   unfold swapsWith;cases e<;>rfl
  rw [exec_Assign_Subscript _ _ _ _ _ hs];simp only [assign_Subscript];refine qab (qcu (qd1 (he A env l ρ σ s v _ I h1) fun y s₁ ρ₁ p hy=>qab ?_))
  refine qe3 (ha A env l ρ₁ σ₁ s₁ u _ (I.post p) h2) fun z s₂ ρ₂ p₂ hz=>qab (qaw (qjz ?_))
  show qas _ _ (eval b env) _ _
  refine qd6 (hb A env l ρ₂ σ₂ s₂ _ _ (I.post (p.trans p₂)) h3) fun x1 s₃ ρ₃ p₃ hx1=>?_
  show qas _ _ (eval c env) _ _
  refine qd6 (hc A env l ρ₃ σ₃ s₃ _ _ (I.post ((p.trans p₂).trans p₃)) h5) fun x2 s₅ ρ₅ p₅ hx2=>?_
  refine qaj hx1 fun t1 e3_1=>?_;subst e3_1
  refine qaj hx2 fun t2 e4_1=>?_;subst e4_1
  have p₆:Post S noF ρ₅ σ₅ s₅ ρ₅ σ₅ {s₅ with heap:=s₅.heap.push {cls:= .type "slice",data:= .fields #[.int i1 t1,.int j1 t2,.none]}}:= .keeps (tk:=s₅.toks) p₅.rel fun b o e=>Heap.get?_push_of_some _ e
  have p35:=p₃.trans p₅
  have p25:=p₂.trans p35
  refine qab (qcu (qnb (qhq p₆.rel I.b.gd (hz.mono p35.agree p35.le) (hy.mono p25.agree p25.le) (Heap.IsSliceOf.new s₅.heap (.int i1 t1) (.int j1 t2) .none) (.int _ _) (.int _ _) (.inr ⟨_,_,rfl,rfl⟩) h4) fun _ s₄ ρ₄ p₄=>qbu (wpAny_release ?_)))
  exact qad (I.psNext (((p.trans p25).trans p₆).trans p₄))
 ·exact qa3 h
end
end Mine
end
noncomputable section
namespace Mine
open PySem PySem.Calls PyProof.Rows PySem.W
open Sem (wp)
noncomputable def Locs.sets (l:Locs) (ps:List (String×V)):Locs:=ps.foldl (fun l p=>l.set p.1 p.2) l
theorem Locs.comm (l:Locs) {x y:String} (u v:V) (h:x≠y):(l.set x u).set y v=(l.set y v).set x u:=by
 funext z
 simp only [Locs.set_eq];by_cases a:z=y
 ·rw [if_pos a,if_neg (fun q=>h (q.symm.trans a)),if_pos a]
 ·rw [if_neg a];by_cases b:z=x
  ·rw [if_pos b,if_pos b]
  ·rw [if_neg b,if_neg b,if_neg a]
theorem Locs.sets_one (l:Locs) {x:String} (u:V): ∀{ps:List (String×V)},x∉ps.map (·.1)→(l.set x u).sets ps=(l.sets ps).set x u
 | [],_=>rfl
 |p::ps,h=>by
  show((l.set x u).set p.1 p.2).sets ps=_
  rw [Locs.comm _ _ _ (fun q=>h (by rw [q];exact .head _)),Locs.sets_one _ _ (fun q=>h (.tail _ q))];rfl
theorem Locs.sets_append (l:Locs) (ps qs:List (String×V)):l.sets (ps++qs)=(l.sets ps).sets qs:=List.foldl_append ..
theorem Locs.sets_reverse (l:Locs): ∀{ps:List (String×V)},(ps.map (·.1)).Nodup→l.sets ps.reverse=l.sets ps
 | [],_=>rfl
 |p::ps,h=>by
  cases h with
  |cons h1 h2=>
   rw [List.reverse_cons,Locs.sets_append,Locs.sets_reverse l h2];show(l.sets ps).set p.1 p.2=(l.set p.1 p.2).sets ps
   rw [Locs.sets_one _ _ (fun q=>h1 _ q rfl)]
theorem qgk: ∀{xs:List String} {vs:List V} {l l':Locs},qcr xs vs l=some l'→xs.length=vs.length∧l'=l.sets (xs.zip vs)
 | [],[],l,l',h=>by cases h;exact⟨rfl,rfl⟩
 |x::xs,v::vs,l,l',h=>by
  refine qa1 (qgk (show qcr xs vs (l.set x v)=some l' from h)) fun a b=>?_
  exact⟨by simp [a],b⟩
 | [],_::_,_,_,h=>by cases h
 |_::_,[],_,_,h=>by cases h
section
variable {w:World} {S:qc5 prog w} {P:Fn→Option Def} {C:Calls} {d:Nat}
variable {sc:Scope} {A:Around} {env:Env} {l l' l₁:Locs} {ρ ρ' ρ₁:Rho} {σ σ' σ₁:St} {s s' s₁:Shared} {e i a b c:PySem.Expr} {m mi ma mb mc:ME} {x:String} {pos np ap np2 p2:Pos}
noncomputable def qpz (M:Model) (env:Env) (x:String) (f:Value→Sem Unit):Prop:= ∀(A:Around) v (Q:Unit→Shared→Prop) s,wpAny M A (storeName env (Str.ofString x) v) Q (fun _ _=>False) s→wpAny M A (f v) Q (fun _ _=>False) s
theorem qd7 {Q:Unit→Shared→Prop} (e:EnvFor sc env): ∀{ps:List (String×V)} {fs:List (Value→Sem Unit)} {ys:List Value} {l:Locs} {s:Shared},Rel S ρ σ s→FR S ρ σ env l s.heap→
  (∀p∈ps,qbi sc (Str.ofString p.1)=true)→All2 (fun(p:String×V) f=>qpz (model prog w) env p.1 f) ps fs→All2 (fun(p:String×V) y=>VR ρ σ.next p.2 y) ps ys→
  (∀s',Post S (FrA env) ρ σ s ρ σ s'→FR S ρ σ env (l.sets ps) s'.heap→Q () s')→wpAny (model prog w) A (assignInOrder fs ys) Q (fun _ _=>False) s
 | [],_,_,l,s,R,f,_,hf,hy,h=>by cases hf;cases hy;exact wpAny_pure (h s (.refl R) f)
 |p::ps,_,_,l,s,R,f,hx,hf,hy,h=>by
  cases hf with
  |cons f1 hf=>
   cases hy with
   |cons y1 hy=>
    show wpAny _ _ (holding _ _>>=fun _=>assignInOrder _ _) _ _ _
    have hk:env.kindOf (Str.ofString p.1)=some .local∨env.kindOf (Str.ofString p.1)=some .cell:=by
     have:=hx p (.head _)
     unfold qbi at this;split at this
     ·rename_i q;exact .inl (e.loc _ q)
     ·rename_i q;exact .inr (e.cell _ q)
     ·cases this
    refine wpAny_bind (wpAny_holding (f1 _ _ _ _ (qd0 R f e.kind hk y1 fun s₂ p₂ f₂=>?_)))
    exact qd7 e p₂.rel f₂ (fun q hq=>hx q (.tail _ hq)) hf hy fun s₃ p₃ f₃=>h s₃ (p₂.trans p₃) f₃
theorem qog {xs:List String} {ts:List PySem.Expr} (h:All2 (fun x (t:PySem.Expr)=> ∃p,t= .Name (Str.ofString x) p) xs ts):
  (assignEach ts env).findIdx? (·.1)=none∧(assignEach ts env).length=xs.length∧All2 (fun x f=>qpz (model prog w) env x f) xs ((assignEach ts env).map (·.2)):=by
 induction h with
 |nil=>exact⟨rfl,rfl,.nil⟩
 | @cons x t xs ts h _ ih=>
  refine qaj h fun p e=>?_;subst e
  refine qeg ih fun a b c=>?_
  have e:assignEach (.Name (Str.ofString x) p::ts) env=(false,assign (.Name (Str.ofString x) p) env)::assignEach ts env:=rfl
  rw [e];refine⟨?_,by simp [b],.cons (fun A v Q s h=>wpAny_assign_Name h) c⟩
  rw [List.findIdx?_cons];simp [a]
theorem All2.zipL {α β γ:Type} {P:α→γ→Prop} {xs:List α} {fs:List γ} (h:All2 P xs fs): ∀{vs:List β},xs.length=vs.length→All2 (fun(p:α×β) f=>P p.1 f) (xs.zip vs) fs:=by
 induction h with
 |nil=>intro vs _;exact .nil
 |cons h t ih=>
  intro vs e;cases vs with
  |nil=>cases e
  |cons v vs=>exact .cons h (ih (Nat.succ.inj e))
theorem All2.zipR {α β γ:Type} {P:β→γ→Prop} {vs:List β} {fs:List γ} (h:All2 P vs fs): ∀{xs:List α},xs.length=vs.length→All2 (fun(p:α×β) f=>P p.2 f) (xs.zip vs) fs:=by
 induction h with
 |nil=>intro xs _;rw [List.zip_nil_right];exact .nil
 |cons h t ih=>
  intro xs e;cases xs with
  |nil=>cases e
  |cons x xs=>exact .cons h (ih (Nat.succ.inj e))
theorem qhr {xs:List String} {vs:List V} {ts:List PySem.Expr} {n k:Nat} {y:Value} {Q:Unit→Shared→Prop} (I:In_ S d A sc env l ρ σ s) (ht:All2 (fun x (t:PySem.Expr)=> ∃p,t= .Name (Str.ofString x) p) xs ts) (hx: ∀x∈xs,qbi sc (Str.ofString x)=true)
  (hv:VR ρ σ.next (.ref (.tup n)) y) (e1:σ.heap (.tup n)=some (.tup vs)) (h2:qcr xs vs l=some l') (h: ∀s',Post S (FrA env) ρ σ s ρ σ s'→FR S ρ σ env l' s'.heap→Q () s'):wpAny (model prog w) A (assign (.Tuple ts k pos) env y) Q (fun _ _=>False) s:=by
 refine qa1 hv fun _ e3_1=>?_;subst e3_1
 refine qcv (I.r.tup e1) fun its m ho r=>?_
 refine qa1 (qgk h2) fun hlen e5_1=>?_;subst e5_1
 refine qeg (qog (env:=env) (w:=w) ht) fun n1 n2 n3=>?_
 refine wpAny_assign_Tuple I.b.hd (items:=its.toArray) ⟨_,ho,rfl,_,rfl⟩ (by rw [n2,List.size_toArray,←r.length,hlen]) n1 fun h' hx'=>?_
 have p1:Post S (FrA env) ρ σ s ρ σ {s with heap:=h'}:= .keeps (tk:=s.toks) I.r fun b o eb=>hx' b o (Nat.ne_of_lt (Heap.lt_size eb)) eb
 exact qd7 I.e p1.rel (I.f.post (F:=noF) (.keeps (tk:=s.toks) I.r fun b o eb=>hx' b o (Nat.ne_of_lt (Heap.lt_size eb)) eb) qfn) (fun p hp=>hx p.1 (List.of_mem_zip hp).1) (n3.zipL hlen) (r.zipR hlen) fun s₂ p₂ f₂=>h s₂ (p1.trans p₂) f₂
set_option tactic.hygienic true in
theorem qp0 {xs:List String} {ts:List PySem.Expr} {k:Nat} (ht:All2 (fun x (t:PySem.Expr)=> ∃p,t= .Name (Str.ofString x) p) xs ts) (hx: ∀x∈xs,qbi sc (Str.ofString x)=true) (hs: ∀env ln,swapsWithSole [.Tuple ts k np] e ln env=pure false) (hsw: ∀env,swappedStores [.Tuple ts k np] e env=pure none)
  (he:qb1 (S:=S) C d sc e m):qey S C d sc (.Assign [.Tuple ts k np] e pos) (.asgUnp xs m):=fun A env l ρ σ s fl l' σ' I h=>by
 refine qba h fun v σ₁ h1 h=>?_
 split at h
 ·split at h
  ·rename_i n _ vs e1
   refine qc9 h fun lz h2 h=>?_
   refine qkm h ?_
   rw [arm_exec_Assign,hs];refine qab (qcu (qab (qad (qbj rfl (qd1 (he A env l ρ σ s _ _ I h1) fun y s₁ ρ₁ p hy=>?_)))))
   rw [hsw];refine qab (qad ?_)
   refine qab ?_
   show qas _ _ (assign (.Tuple ts k np) env y) _ _
   exact qbu (qhr (I.post p) ht hx hy e1 h2 fun s₂ p₂ f₂=>qad ⟨ρ₁,p.fr.trans p₂,f₂,rfl⟩)
  ·exact qa3 h
 ·exact qa3 h
end
end Mine
end
noncomputable section
namespace Mine
open PySem PySem.Calls PyProof.Rows PySem.W
open Sem (wp)
section
variable {w:World} {S:qc5 prog w} {P:Fn→Option Def} {C:Calls} {d:Nat}
variable {sc:Scope} {A:Around} {env:Env} {l l' l₁:Locs} {ρ ρ' ρ₁:Rho} {σ σ' σ₁:St} {s s' s₁:Shared} {e i a b c:PySem.Expr} {m mi ma mb mc:ME} {x:String} {pos np ap np2 p2:Pos}
set_option backward.match.sparseCases true in
theorem qk7 {f:Str→Pos→Bool} {xs:List String} {ts:List PySem.Expr} (h:All2 (fun x (t:PySem.Expr)=> ∃p,t= .Name (Str.ofString x) p) xs ts):
  (ts.filterMap fun| .Name id p=>if f id p=true then some id else none|_=>none).length=ts.length→(ts.filterMap fun| .Name id p=>if f id p=true then some id else none|_=>none)=xs.map Str.ofString:=by
 induction h with
 |nil=>intro _;rfl
 | @cons x t xs ts h _ ih=>
  intro e;refine qaj h fun p e0=>?_;subst e0
  by_cases q:f (Str.ofString x) p=true
  ·rw [List.filterMap_cons_some (b:=Str.ofString x) (by simp [q])]at e ⊢;rw [List.map_cons,ih (by simpa using e)]
  ·rw [List.filterMap_cons_none (by simp [q])]at e;have:=List.length_filterMap_le (fun| .Name id p=>if f id p=true then some id else none|_=>none:PySem.Expr→Option Str) ts
   rw [List.length_cons]at e;lia
theorem qu8 {e:PySem.Expr} (h:qge e=true):foldedForSure 8 e=true:=by
 cases e<;>first|rfl|exact absurd h Bool.false_ne_true
set_option backward.match.sparseCases true in
theorem qoh {xs:List String} {ts es:List PySem.Expr} {k k':Nat} (ht:All2 (fun x (t:PySem.Expr)=> ∃p,t= .Name (Str.ofString x) p) xs ts) (hc:es.all qge=true∨ ∃e∈es,constantsAlone 8 e=false):
  swappedStores [.Tuple ts k np] (.Tuple es k' np2) env=pure none∨swappedStores [.Tuple ts k np] (.Tuple es k' np2) env=pure (some (xs.map Str.ofString)):=by
 unfold swappedStores;dsimp only;split
 ·exact .inl rfl
 ·split
  ·exact .inl rfl
  ·split
   ·exact .inl rfl
   ·rename_i hn
    split
    ·exact .inl rfl
    ·rename_i hf
     split
     ·rename_i ha
      exfalso
      rcases hc with hc|⟨e,he,hc⟩
      ·apply hf
       rw [List.all_eq_true]at hc ⊢;intro e he;exact qu8 (hc e he)
      ·rw [List.all_eq_true]at ha;rw [ha e he]at hc;cases hc
     ·refine .inr ?_
      have hl:(ts.filterMap fun| .Name id p=>if(env.kindOf id==some .local&&p.line==(Option.map (fun x=>x.pos.line) ts.head?).getD 0)=true then some id else none|_=>none).length=ts.length:=by
       simp only [Bool.or_eq_true,not_or,bne_iff_ne,ne_eq,Decidable.not_not]at hn;exact hn.1
      rw [←qk7 ht hl];rfl
theorem qu9 {α β:Type} {xs:List α}: ∀{vs:List β},xs.length=vs.length→xs.reverse.zip vs.reverse=(xs.zip vs).reverse:=by
 induction xs with
 |nil=>exact fun _=>by rw [List.reverse_nil,List.zip_nil_left,List.zip_nil_left];rfl
 |cons x xs ih=>
  intro vs h;cases vs with
  |nil=>exact nomatch h
  |cons v vs=>
   have h':xs.length=vs.length:=Nat.succ.inj h
   rw [List.reverse_cons,List.reverse_cons,List.zip_append (by rw [List.length_reverse,List.length_reverse,h']),ih h',List.zip_cons_cons,List.zip_cons_cons,List.reverse_cons];rfl
theorem binds_each {xs:List String}:All2 (fun x f=>qpz (model prog w) env x f) xs (xs.map fun x=>bindName env (Str.ofString x)):=by
 induction xs with
 |nil=>exact .nil
 |cons x xs ih=>exact .cons (fun A v Q s h=>wpAny_bindName h) ih
theorem qp1 {xs:List String} {ts es:List PySem.Expr} {ms:List ME} {k k':Nat} (ht:All2 (fun x (t:PySem.Expr)=> ∃p,t= .Name (Str.ofString x) p) xs ts) (hx: ∀x∈xs,qbi sc (Str.ofString x)=true) (hnd:xs.Nodup)
  (hc:es.all qge=true∨ ∃e∈es,constantsAlone 8 e=false) (hl:ms.length≤1000) (he:All2 (OK S C d sc) es ms):qey S C d sc (.Assign [.Tuple ts k np] (.Tuple es k' np2) pos) (.asgTup xs ms):=fun A env l ρ σ s fl l' σ' I h=>by
 refine qba h fun vs σ₁ h1 h=>?_
 refine qc9 h fun lz h2 h=>?_
 refine qkm h ?_
 have hev:evE C l (.tup ms) σ=some (.ref (.tup σ₁.next),σ₁.new .tup (.tup vs)):=by rw [qyr,h1];rfl
 rw [arm_exec_Assign];have hs:swapsWithSole [.Tuple ts k np] (.Tuple es k' np2) pos.line env=pure false:=rfl
 rw [hs];refine qab (qcu (qab (qad (qbj rfl (qd1 (qtm hl he A env l ρ σ s _ _ I hev) fun y s₁ ρ₁ p hy=>?_)))))
 have I₁:=I.post p
 have e1:(σ₁.new .tup (.tup vs)).heap (.tup σ₁.next)=some (.tup vs):=if_pos rfl
 rcases qoh (env:=env) (k:=k) (k':=k') (np:=np) (np2:=np2) ht hc with q|q
 ·rw [q];refine qab (qad (qab ?_))
  show qas _ _ (assign (.Tuple ts k np) env y) _ _
  exact qbu (qhr I₁ ht hx hy e1 h2 fun s₂ p₂ f₂=>qad ⟨ρ₁,p.fr.trans p₂,f₂,rfl⟩)
 ·rw [q];refine qab (qad ?_)
  unfold assignStores;refine qab (qiw ?_)
  refine qa1 hy fun _ e1_1=>?_;subst e1_1
  refine qcv (I₁.r.tup e1) fun its m ho r=>?_
  refine qa1 (qgk h2) fun hlen e3_1=>?_;subst e3_1
  have en:(xs.map Str.ofString).length=its.toArray.size:=by rw [List.length_map,hlen,List.size_toArray,r.length]
  rw [en];refine qbc (wpAny_unpackItems_tuple I.b.hd ⟨_,ho,rfl,_,rfl⟩ fun h' hx'=>?_)
  have p1: ∀{G:Addr→Prop},Post S G ρ₁ (σ₁.new .tup (.tup vs)) s₁ ρ₁ (σ₁.new .tup (.tup vs)) {s₁ with heap:=h'}:= .keeps (tk:=s₁.toks) I₁.r fun b o eb=>hx' b o (Nat.ne_of_lt (Heap.lt_size eb)) eb
  have ef:((xs.map Str.ofString).reverse.map fun n=>bindName env n)=xs.reverse.map fun x=>bindName env (Str.ofString x):=by
   rw [←List.map_reverse,List.map_map];rfl
  rw [ef];have f1:FR S ρ₁ (σ₁.new .tup (.tup vs)) env l h':=I₁.f.post (F:=noF) p1 qfn
  have hlr:xs.reverse.length=vs.reverse.length:=by simp [hlen]
  refine qab (qbu (qd7 I.e (ps:=xs.reverse.zip vs.reverse) (l:=l) (p1 (G:=noF)).rel f1 (fun p hp=>hx p.1 (List.mem_reverse.mp (List.of_mem_zip hp).1)) (binds_each.zipL hlr) (by simpa using r.reverse.zipR hlr) fun s₂ p₂ f₂=>qad ⟨ρ₁,(p.fr.trans p1).trans p₂,?_,rfl⟩))
  have ez:xs.reverse.zip vs.reverse=(xs.zip vs).reverse:=qu9 hlen
  rw [ez]at f₂
  rwa [Locs.sets_reverse _ (by rw [List.map_fst_zip (by(with_reducible exact Nat.le_of_eq ‹_›))];exact hnd)]at f₂
end
end Mine
end
noncomputable section
namespace Mine
open PySem PySem.Calls PyProof.Rows PySem.W
open Sem (wp)
noncomputable def qhs (qar:St→Bool) (turn:Nat→Locs→St→R):Nat→Nat→Locs→St→R
 |_,0,l,σ=>match qar σ with
  |true=>some (.next,l,σ)
  |false=>none
 |i,k+1,l,σ=>match qar σ with
  |true=>qjp (turn i l σ) (qhs qar turn (i+1) k)
  |false=>none
noncomputable def nth (vs:List V) (T:Nat→V→Locs→St→R) (i:Nat) (l:Locs) (σ:St):R:=match vs[i]? with
 |some v=>T i v l σ
 |none=>none
theorem qp2 {qar:St→Bool} {T:Nat→V→Locs→St→R} (vs:List V): ∀(r:List V) (i:Nat),(∀j,r[j]? =vs[i+j]?)→qgz qar T i r=qhs qar (nth vs T) i r.length:=by
 intro r
 induction r with
 |nil=>exact fun _ _=>rfl
 |cons v r ih=>
  intro i h;have e:nth vs T i=T i v:=by
   unfold nth;rw [show vs[i]? =some v from(h 0).symm]
  funext l σ
  show(match qar σ with|true=>qjp (T i v l σ) (qgz qar T (i+1) r)|false=>none)=(match qar σ with|true=>qjp (nth vs T i l σ) (qhs qar (nth vs T) (i+1) r.length)|false=>none)
  rw [e,ih (i+1) fun j=>by rw [←List.getElem?_cons_succ (a:=v),h (j+1),Nat.add_assoc,Nat.add_comm 1 j]]
theorem qva {qar:St→Bool} {T:V→Locs→St→R}: ∀(r:List V) (i:Nat),qch qar T r=qgz qar (fun _=>T) i r:=by
 intro r
 induction r with
 |nil=>exact fun _=>rfl
 |cons v r ih=>
  intro i;funext l σ
  show(match qar σ with|true=>qjp (T v l σ) (qch qar T r)|false=>none)=(match qar σ with|true=>qjp (T v l σ) (qgz qar (fun _=>T) (i+1) r)|false=>none)
  rw [ih (i+1)]
theorem qj2 {qar:St→Bool} {T:V→Locs→St→R} (vs:List V) (l:Locs) (σ:St):qch qar T vs l σ=qhs qar (nth vs fun _=>T) 0 vs.length l σ:=by
 rw [qva vs 0,qp2 vs vs 0 fun j=>by rw [Nat.zero_add]]
theorem fold2 {α β:Type _} (I:α→β→Prop) {G:Prop} (h: ∀J:α→β→Prop,(∀a b,I a b→J a b)→(∀a b,J a b→I a b)→G):G:=h I (fun _ _ h=>h) fun _ _ h=>h
theorem tri_e {b:Bool} {m:R} {r:MFl×Locs×St} {G:Prop} (h:(match b with|true=>m|false=>none)=some r) (k:b=true→m=some r→G):G:=by
 cases b with
 |true=>exact k rfl h
 |false=>exact nomatch h
theorem qvb {qar:St→Bool} {turn:Nat→Locs→St→R} {i:Nat} {l:Locs} {σ:St} (h:qar σ=true):qhs qar turn i 0 l σ=some (.next,l,σ):=by
 show(match qar σ with|true=>(some (.next,l,σ):R)|false=>none)=_
 rw [h]
theorem qvc {qar:St→Bool} {turn:Nat→Locs→St→R} {i:Nat} {l:Locs} {σ:St} {r:MFl×Locs×St} {G:Prop} (h:qhs qar turn i 0 l σ=some r) (k:qar σ=true→some (.next,l,σ)=some r→G):G:=
 tri_e (b:=qar σ) (m:=some (.next,l,σ)) h k
theorem qvd {qar:St→Bool} {turn:Nat→Locs→St→R} {i n:Nat} {l:Locs} {σ:St} {r:MFl×Locs×St} {G:Prop} (h:qhs qar turn i (n+1) l σ=some r)
  (k:qar σ=true→ ∀f1 l1 σ1,turn i l σ=some (f1,l1,σ1)→qjp (some (f1,l1,σ1)) (qhs qar turn (i+1) n)=some r→G):G:=
 tri_e (b:=qar σ) (m:=qjp (turn i l σ) (qhs qar turn (i+1) n)) h fun e h=>by
  revert h k
  match turn i l σ with
  |none=>exact fun _ h=>nomatch h
  |some (f1,l1,σ1)=>exact fun k h=>k e f1 l1 σ1 rfl h
section
variable {w:World} {S:qc5 prog w} {P:Fn→Option Def} {C:Calls} {d:Nat}
variable {sc:Scope} {A:Around} {env:Env} {l l' l₁ l₀:Locs} {ρ ρ' ρ₁ ρ₀:Rho} {σ σ' σ₁ σ₀:St} {s s' s₁ s₀:Shared} {e i a b c:PySem.Expr} {m mi ma mb mc:ME} {x:String} {pos np ap np2 p2:Pos}
theorem FR.heap {h h':Heap} (f:FR S ρ σ env l h) (hk: ∀b o,FrA env b→h.get? b=some o→h'.get? b=some o):FR S ρ σ env l h':=by
 obtain⟨⟨m,hm,km⟩,cel,all,there,no,bs,ap,lc⟩:=f
 refine⟨⟨m,hm.at' fun o e=>hk _ o (.inl rfl) e,km⟩,fun z u e kz=>?_,fun z kz=>?_,fun z c hc=>?_,no,bs,ap,lc⟩
 ·refine qfj (cel z u e kz) fun c u' a z1_3 b=>?_;refine qac z1_3 fun o ho hd=>?_
  exact⟨c,u',a,⟨o,hk c o (.inr ⟨_,a⟩) ho,hd⟩,b⟩
 ·obtain⟨c,u',a,o,ho,hd⟩:=all z kz
  exact⟨c,u',a,o,hk c o (.inr ⟨_,a⟩) ho,hd⟩
 ·refine qcv (there z c hc) fun u' o ho hd=>?_
  exact⟨u',o,hk c o (.inr ⟨_,hc⟩) ho,hd⟩
theorem Post.endIt {G wr:Addr→Prop} {h':Heap} {tk:Nat} (R:Rel S ρ σ s) (p:Post S G ρ σ s ρ' σ' s₁) (hw: ∀b,wr b→s.heap.get? b=none) (hno: ∀b,wr b→ ¬Own ρ' σ' b) (hk: ∀b o,¬wr b→s₁.heap.get? b=some o→h'.get? b=some o):
  Post S G ρ σ s ρ' σ' {s₁ with heap:=h',toks:=tk}:=by
 have old: ∀b o,s.heap.get? b=some o→ ¬wr b:=fun b o e q=>by rw [hw b q]at e;exact qa3 e
 refine⟨p.agree,p.le,⟨fun b o e=>hk b o (old b o (R.base b o e)) (p.rel.base b o e),p.rel.fresh,p.rel.inj,p.rel.lt,fun l o e=>(p.rel.obj l o e).heap fun l' hm ob eb=>hk _ _ (fun q=>hno _ q ⟨l',qdx e p.rel.noi hm,rfl⟩) eb,p.rel.noi⟩,
  fun b o e h1 h2=>hk b o (old b o e) (p.kept b o e h1 h2),fun b o e=>?_,p.own,p.gens,p.os⟩
 refine qaj (p.stay b o e) fun o' e'=>?_
 exact⟨o',hk b o' (old b o e) e'⟩
noncomputable def Step (S:qc5 prog w) (env:Env) (wr:Addr→Prop) (Pos:Nat→Heap→Prop) (i:Nat) (ρ:Rho) (σ:St) (s:Shared) (fl:MFl) (l':Locs) (σ':St) (f:PySem.Flow) (s':Shared):Prop:=
 ∃ρ',Post S (fun b=>FrA env b∨wr b) ρ σ s ρ' σ' s'∧FR S ρ' σ' env l' s'.heap∧(match fl with| .next=>f= .next| .ret v=> ∃y,f= .ret y∧VR ρ' σ'.next v y)∧Pos i s'.heap
theorem qi4 {target:PySem.Expr} {body:List Stmt} {n:Nat} {itA:Addr} {wr:Addr→Prop} {Pos:Nat→Heap→Prop} {qar:St→Bool} {turn:Nat→Locs→St→R} {fl:MFl}
  (I:In_ S d A sc env l₀ ρ₀ σ₀ s₀) (hw: ∀b,wr b→s₀.heap.get? b=none) (hk: ∀b o,s₀.heap.get? b=some o→s₁.heap.get? b=some o) (heq: ∃h tk,s₁= {s₀ with heap:=h,toks:=tk}) (hpos:Pos 0 s₁.heap)
  (there: ∀i h b,Pos i h→wr b→ ∃o,h.get? b=some o)
  (adv: ∀i,i<n→ ∀l ρ σ s fl l' σ',In_ S d A sc env l ρ σ s→(∀b,wr b→ ¬Own ρ σ b∧ ¬FrA env b∧S.B.get? b=none)→Agree σ₀.next ρ₀ ρ→qar σ=true→Pos i s.heap→turn i l σ=some (fl,l',σ')→
   qas (model prog w) A (pyNext (.ref itA)) (fun r s₁=> ∃y,r=some y∧qas (model prog w) A (letOwnedTupleGo target (.ref itA) y) (fun _ s₂=>qas (model prog w) A (assign target env y) (fun _ s₃=>qas (model prog w) A (execs body env) (Step S env wr Pos (i+1) ρ σ s fl l' σ') s₃) s₂) s₁) s)
  (stop: ∀l ρ σ s (Q:Option Value→Shared→Prop),In_ S d A sc env l ρ σ s→Agree σ₀.next ρ₀ ρ→qar σ=true→Pos n s.heap→(∀h',(∀b o,¬wr b→s.heap.get? b=some o→h'.get? b=some o)→Q none {s with heap:=h'})→wpAny (model prog w) A (pyNext (.ref itA)) Q (fun _ _=>False) s)
  (h:qhs qar turn 0 n l₀ σ₀=some (fl,l',σ')):
  qci (model prog w) A (.forLoop target (.ref itA) body [] env) (fun r s'=>match r with| .ok f=>PS S env ρ₀ σ₀ s₀ fl l' σ' f s'| .error _=>False) s₁:=by
 have fra: ∀b,wr b→ ¬FrA env b:=fun b q z=>by
  refine qaj (I.f.frThere z) fun o ho=>?_
  rw [hw b q]at ho;exact qa3 ho
 refine fold2 (fun(k:Nat) s=> ∃i ρ σ l,k=n- i∧i≤n∧Post S (fun b=>FrA env b∨wr b) ρ₀ σ₀ s₀ ρ σ s∧FR S ρ σ env l s.heap∧Pos i s.heap∧(∀b,wr b→ ¬Own ρ σ b)∧qhs qar turn i k l σ=some (fl,l',σ')) fun J put get=>?_
 refine qny J ?_ n ?_
 ·intro k s hJ;refine qyf (get _ _ hJ) fun i ρ σ l ek hi p f hq=>?_;refine qeg hq fun hp hno hl=>?_
  clear get hJ hq;have I':In_ S d A sc env l ρ σ s:=⟨I.b,I.e,p.rel,f⟩
  cases k with
  |zero=>
   have hin:n=i:=oqd ek hi
   refine qvc hl fun hst hl=>?_
   clear adv there put;refine qkm hl ?_
   refine qbu (stop l ρ σ s _ I' p.agree hst (hin ▸ hp) fun h' hk'=>?_)
   exact⟨ρ,(p.weak fun b o e z=>z.elim id fun z=>by rw [hw b z]at e;cases e).endIt (tk:=s.toks) I.r hw hno hk',f.heap fun b o z e=>hk' b o (fun q=>fra b q z) e,rfl⟩
  |succ k=>
   refine qvd hl fun hst f1 l1 σ1 q hl=>?_
   refine k_mono (adv i (oqb ek) l ρ σ s f1 l1 σ1 I' (fun b z=>⟨hno b z,fra b z,I.r.fresh_base (hw b z)⟩) p.agree hst hp q) fun r s₁ hr=>?_
   clear adv stop;refine qac hr fun y er hy=>?_
   subst er;refine k_mono hy fun _ s₂ h₂=>k_mono h₂ fun _ s₃ h₃=>k_mono h₃ fun f s₄ h₄=>?_
   refine qt1 h₄ fun ρ' p' f' hf hp'=>?_
   clear hr hy h₂ h₃ h₄;cases f1 with
   |next=>
    subst hf;refine⟨k,Nat.lt_succ_self k,put _ _ ⟨i+1,ρ',σ1,l1,oqc ek,oqb ek,p.trans p',f',hp',fun b z=>?_,hl⟩⟩
    refine qaj (there _ _ b hp z) fun o ho=>?_
    exact p'.notOwn (s0:=s) ho (hno b z)
   |ret v=>
    refine qac hf fun y' e9_1 hy'=>?_;subst e9_1
    clear put;refine qkm (show some (MFl.ret v,l1,σ1)=some (fl,l',σ')from hl) ?_
    exact⟨ρ',(p.trans p').weak (fun b o e z=>z.elim id fun z=>by rw [hw b z]at e;cases e),f',y',rfl,hy'⟩
 ·refine qic heq fun hh tk e10_2=>?_;subst e10_2
  exact put _ _ ⟨0,ρ₀,σ₀,l₀,rfl,Nat.zero_le _,.keeps I.r hk,I.f.heap fun b o _ e=>hk b o e,hpos,fun b z=>I.r.notOwn (hw b z),h⟩
end
end Mine
end
noncomputable section
namespace Mine
open PySem PySem.Calls PyProof.Rows PySem.W
open Sem (wp)
section
variable {w:World} {S:qc5 prog w} {P:Fn→Option Def} {C:Calls} {d:Nat}
variable {sc:Scope} {A:Around} {env:Env} {l l' l₁ l₀:Locs} {ρ ρ' ρ₁ ρ₀:Rho} {σ σ' σ₁ σ₀:St} {s s' s₁ s₀:Shared} {e i a b c:PySem.Expr} {m mi ma mb mc:ME} {x:String} {pos np ap np2 p2:Pos}
theorem qmm {wr:Addr→Prop} {Pos:Nat→Heap→Prop} {j:Nat} {fl:MFl} {f:PySem.Flow} {s₄:Shared} (frame: ∀i h h',Pos i h→(∀b o,wr b→h.get? b=some o→h'.get? b=some o)→Pos i h')
  (p₁:Post S (fun b=>FrA env b∨wr b) ρ σ s ρ σ s₁) (hw: ∀b,wr b→ ¬Own ρ σ b∧ ¬FrA env b∧S.B.get? b=none) (hp:Pos j s₁.heap) (h:PS S env ρ σ s₁ fl l' σ' f s₄):Step S env wr Pos j ρ σ s fl l' σ' f s₄:=by
 refine qao h fun ρ' p fr hf=>?_
 exact⟨ρ',p₁.trans (p.weak fun _ _ _ z=> .inl z),fr,hf,frame _ _ _ hp fun b o z e=>p.kept b o e (hw b z).1 (hw b z).2.1⟩
theorem qht {body:List Stmt} {mbody:List MS} {wr:Addr→Prop} {Pos:Nat→Heap→Prop} {j:Nat} {fl:MFl} {v:V} {y:Value} {itA:Addr} (hx:qbi sc (Str.ofString x)=true) (hb:qfb S C d sc body mbody)
  (frame: ∀i h h',Pos i h→(∀b o,wr b→h.get? b=some o→h'.get? b=some o)→Pos i h') (I:In_ S d A sc env l ρ σ s) (hw: ∀b,wr b→ ¬Own ρ σ b∧ ¬FrA env b∧S.B.get? b=none) (p₁:Post S (fun b=>FrA env b∨wr b) ρ σ s ρ σ s₁) (hfr:FR S ρ σ env l s₁.heap) (hp:Pos j s₁.heap)
  (hv:VR ρ σ.next v y) (h:qbk C mbody (l.set x v) σ=some (fl,l',σ')):
  qas (model prog w) A (letOwnedTupleGo (.Name (Str.ofString x) np) (.ref itA) y) (fun _ s₂=>qas (model prog w) A (assign (.Name (Str.ofString x) np) env y) (fun _ s₃=>qas (model prog w) A (execs body env) (Step S env wr Pos j ρ σ s fl l' σ') s₃) s₂) s₁:=by
 have hk:env.kindOf (Str.ofString x)=some .local∨env.kindOf (Str.ofString x)=some .cell:=by
  unfold qbi at hx;split at hx
  ·rename_i q;exact .inl (I.e.loc _ q)
  ·rename_i q;exact .inr (I.e.cell _ q)
  ·cases hx
 refine qad ?_
 refine qbu (wpAny_assign_Name (qd0 p₁.rel hfr I.e.kind hk hv fun s₂ p₂ f₂=>?_))
 have I₂:In_ S d A sc env (l.set x v) ρ σ s₂:=⟨I.b,I.e,p₂.rel,f₂⟩
 exact k_mono (hb A env _ ρ σ s₂ fl l' σ' I₂ h) fun f s₃ z=>qmm frame p₁ hw hp (z.after p₂)
theorem qb5 {v:V} {vs:List V} {n:Nat} (hv:v= .ref (.list n)) (hn:n<σ₀.next) (ag:Agree σ₀.next ρ₀ ρ) (R:Rel S ρ σ s) (h:decide (qav v σ=some vs)=true) {GG:Prop} (kk: ∀its,s.heap.PlainList (ρ₀ (.list n)) its.toArray→All2 (VR ρ σ.next) vs its→GG):GG:=by
 refine qac (qce (of_decide_eq_true h)) fun n' e e1=>?_
 subst hv;cases e
 refine qao (R.list e1) fun its p r _=>?_
 rw [ag (.list n) hn]at p;exact kk its p r
theorem qp3 {wr:Addr→Prop} {h':Heap} {tk:Nat} (R:Rel S ρ σ s) (hw: ∀b,wr b→ ¬Own ρ σ b∧ ¬FrA env b∧S.B.get? b=none) (hk: ∀b o,¬wr b→s.heap.get? b=some o→h'.get? b=some o) (ht: ∀b,wr b→ ∃o,h'.get? b=some o):
  Post S (fun b=>FrA env b∨wr b) ρ σ s ρ σ {s with heap:=h',toks:=tk}:=by
 have hbs: ∀b o,S.B.get? b=some o→h'.get? b=some o:=fun b o e=>hk b o (fun q=>by rw [(hw b q).2.2]at e;cases e) (R.base b o e)
 refine⟨.refl _ _,Nat.le_refl _,⟨hbs,R.fresh,R.inj,R.lt,fun l o e=>(R.obj l o e).heap fun l' hm ob eb=>hk _ _ (fun q=>(hw _ q).1 ⟨l',qdx e R.noi hm,rfl⟩) eb,R.noi⟩,
  fun b o e h1 h2=>hk b o (fun q=>h2 (.inr q)) e,fun b o e=>?_,fun _ h=> .inl h,rfl,rfl⟩
 by_cases q:wr b
 ·exact ht b q
 ·exact⟨o,hk b o q e⟩
theorem qve {body:List Stmt} {mbody:List MS} {it:PySem.Expr} (hx:qbi sc (Str.ofString x)=true) (hs: ∀env y,foldedSetIterable it env y=pure y) (hit:qb1 (S:=S) C d sc it m) (hb:qfb S C d sc body mbody):
  qey S C d sc (.For (.Name (Str.ofString x) np) it body [] pos) (.forL x m mbody):=fun A env l ρ σ s fl l' σ' I h=>by
 refine qba h fun v σ₁ h1 h=>?_
 refine qc9 h fun vs hvs h=>?_
 refine qac (qce hvs) fun n e3_1 e1=>?_;subst e3_1
 rw [qj2]at h;refine qnz (qd6 (hit A env l ρ σ s _ _ I h1) fun y s₀ ρ₀ p₀ hy=>?_) (hs env)
 have I₀:=I.post p₀
 refine qa1 hy fun hlt e4_1=>?_;subst e4_1
 refine qao (I₀.r.list e1) fun its pl r hl=>?_
 refine qbu (wpAny_pyIter_list pl.isList ?_)
 have key:=qi4 (target:= .Name (Str.ofString x) np) (body:=body) (n:=vs.length) (itA:=s₀.heap.objs.size) (wr:=fun b=>b=s₀.heap.objs.size) (Pos:=fun i h=>h.IsListIter s₀.heap.objs.size (ρ₀ (.list n)) i)
  (s₁:= {s₀ with heap:=s₀.heap.push {cls:= .type "list_iterator",data:= .fields #[.ref (ρ₀ (.list n)),.int 0 0]}}) I₀ (fun b z=>by rw [z];exact qcd _ (Nat.le_refl _)) (fun b o e=>Heap.get?_push_of_some _ e) ⟨_,s₀.toks,rfl⟩ ⟨_,Heap.get?_push_size _ rfl,rfl,rfl⟩
  (fun i h b hp z=>by refine qac hp fun o ho _=>?_;rw [z];exact⟨o,ho⟩) ?_ ?_ h
 ·refine qcw key fun r s' z=>?_
  cases r with
  |ok f=>exact z.after p₀.fr
  |error _=>exact z
 ·intro i hi l ρ σ s fl l' σ' I' hw ag hst hp ht;refine qb5 rfl hlt ag I'.r hst fun its pl r=>?_
  unfold nth at ht;rw [List.getElem?_eq_getElem hi]at ht;refine qac (r.get (List.getElem?_eq_getElem hi)) fun y ey hyv=>?_
  refine qbu (wpAny_pyNext_list_item hp pl.isList (by simpa using ey) fun h' hp' hs'=>⟨y,rfl,?_⟩)
  have st:=qp3 (env:=env) (wr:=fun b=>b=s₀.heap.objs.size) (tk:=s.toks) I'.r hw (fun b o z e=>(hs'.2 b z).trans e) (fun b z=>by refine qac hp' fun o ho _=>?_;rw [z];exact⟨o,ho⟩)
  exact qht hx hb (fun i h h' hp k=>by refine qac hp fun o ho q=>?_;exact⟨o,k _ _ rfl ho,q⟩) I' hw st (I'.f.heap fun b o z e=>(hs'.2 b (fun q=>(hw b q).2.1 z)).trans e) hp' hyv ht
 ·intro l ρ σ s Q I' ag hst hp hq;refine qb5 rfl hlt ag I'.r hst fun its pl r=>?_
  exact wpAny_pyNext_list_end I'.b.hd hp pl.isList (by simp [r.length]) fun h' he=>hq h' fun b o z e=>he b o z e
end
end Mine
end
noncomputable section
namespace Mine
open PySem PySem.Calls PyProof.Rows PySem.W
open Sem (wp)
section
variable {w:World} {S:qc5 prog w} {P:Fn→Option Def} {C:Calls} {d:Nat}
variable {sc:Scope} {A:Around} {env:Env} {l l' l₁ l₀:Locs} {ρ ρ' ρ₁ ρ₀:Rho} {σ σ' σ₁ σ₀:St} {s s' s₁ s₀:Shared} {e i a b c:PySem.Expr} {m mi ma mb mc:ME} {x:String} {pos np ap np2 p2:Pos}
theorem qp4 {xs:List String} {ts:List PySem.Expr} {k:Nat} {body:List Stmt} {mbody:List MS} {it:PySem.Expr} (ht:All2 (fun x (t:PySem.Expr)=> ∃p,t= .Name (Str.ofString x) p) xs ts) (hx: ∀x∈xs,qbi sc (Str.ofString x)=true) (hs: ∀env y,foldedSetIterable it env y=pure y) (hit:qb1 (S:=S) C d sc it m) (hb:qfb S C d sc body mbody):
  qey S C d sc (.For (.Tuple ts k np) it body [] pos) (.forUnp xs m mbody):=fun A env l ρ σ s fl l' σ' I h=>by
 refine qba h fun v σ₁ h1 h=>?_
 refine qc9 h fun vs hvs h=>?_
 refine qac (qce hvs) fun n e0_1 e1=>?_;subst e0_1
 rw [qj2]at h;refine qnz (qd6 (hit A env l ρ σ s _ _ I h1) fun y s₀ ρ₀ p₀ hy=>?_) (hs env)
 have I₀:=I.post p₀
 refine qa1 hy fun hlt e1_1=>?_;subst e1_1
 refine qao (I₀.r.list e1) fun its pl r hl=>?_
 refine qbu (wpAny_pyIter_list pl.isList ?_)
 have key:=qi4 (target:= .Tuple ts k np) (body:=body) (n:=vs.length) (itA:=s₀.heap.objs.size) (wr:=fun b=>b=s₀.heap.objs.size) (Pos:=fun i h=>h.IsListIter s₀.heap.objs.size (ρ₀ (.list n)) i)
  (s₁:= {s₀ with heap:=s₀.heap.push {cls:= .type "list_iterator",data:= .fields #[.ref (ρ₀ (.list n)),.int 0 0]}}) I₀ (fun b z=>by rw [z];exact qcd _ (Nat.le_refl _)) (fun b o e=>Heap.get?_push_of_some _ e) ⟨_,s₀.toks,rfl⟩ ⟨_,Heap.get?_push_size _ rfl,rfl,rfl⟩
  (fun i h b hp z=>by refine qac hp fun o ho _=>?_;rw [z];exact⟨o,ho⟩) ?_ ?_ h
 ·refine qcw key fun r s' z=>?_
  cases r with
  |ok f=>exact z.after p₀.fr
  |error _=>exact z
 ·intro i hi l ρ σ s fl l' σ' I' hw ag hst hp htn;refine qb5 rfl hlt ag I'.r hst fun its pl r=>?_
  unfold nth at htn;rw [List.getElem?_eq_getElem hi]at htn;refine qac (r.get (List.getElem?_eq_getElem hi)) fun y ey hyv=>?_
  refine qbu (wpAny_pyNext_list_item hp pl.isList (by simpa using ey) fun h' hp' hs'=>⟨y,rfl,?_⟩)
  have st:=qp3 (env:=env) (wr:=fun b=>b=s₀.heap.objs.size) (tk:=s.toks) I'.r hw (fun b o z e=>(hs'.2 b z).trans e) (fun b z=>by refine qac hp' fun o ho _=>?_;rw [z];exact⟨o,ho⟩)
  dsimp only at htn;generalize vs[i]=u at htn hyv
  split at htn
  ·rename_i tn
   split at htn
   ·rename_i us e2
    refine qc9 htn fun lz h2 htn=>?_
    have I₂:In_ S d A sc env l ρ σ {s with heap:=h'}:=⟨I'.b,I'.e,st.rel,I'.f.heap fun b o z e=>(hs'.2 b (fun q=>(hw b q).2.1 z)).trans e⟩
    refine qa1 (id hyv) fun ht1 e7_1=>?_;subst e7_1
    refine qbu (wpAny_letOwnedTupleGo_listiter hp' ?_)
    refine qbu (qhr I₂ ht hx hyv e2 h2 fun s₂ p₂ f₂=>?_)
    have I₃:In_ S d A sc env lz ρ σ s₂:=⟨I'.b,I'.e,p₂.rel,f₂⟩
    exact k_mono (hb A env _ ρ σ s₂ fl l' σ' I₃ htn) fun f s₃ z=>qmm (fun i h h' hp k=>by refine qac hp fun o ho q=>?_;exact⟨o,k _ _ rfl ho,q⟩) st hw hp' (z.after p₂)
   ·exact qa3 htn
  ·exact qa3 htn
 ·intro l ρ σ s Q I' ag hst hp hq;refine qb5 rfl hlt ag I'.r hst fun its pl r=>?_
  exact wpAny_pyNext_list_end I'.b.hd hp pl.isList (by simp [r.length]) fun h' he=>hq h' fun b o z e=>he b o z e
theorem qp5 {F:PF S P} (B:Blt F sc "reversed" (.type "reversed")) {body:List Stmt} {mbody:List MS} (hx:qbi sc (Str.ofString x)=true) (ha:OK S C d sc a m) (hb:qfb S C d sc body mbody):
  qey S C d sc (.For (.Name (Str.ofString x) np) (.Call (.Name (Str.ofString "reversed") np2) [a] [] p2) body [] pos) (.forRev x m mbody):=fun A env l ρ σ s fl l' σ' I h=>by
 refine qba h fun v σ₁ h1 h=>?_
 refine qc9 h fun vs hvs h=>?_
 refine qac (qce hvs) fun n e10_1 e1=>?_;subst e10_1
 rw [qj2]at h;refine qnz (qi3 B ha I h1 e1 fun ρ₀ s₀ s₁ rr p₀ bs hr=>?_) (fun _=>rfl)
 have I₀:=I.post p₀
 have hlt:n<σ₁.next:=I₀.r.lt (.list n) (by simp [qdw,e1])
 refine qbu (wpAny_pyIter_revIter hr ?_)
 rw [List.length_reverse]at h;have key:=qi4 (target:= .Name (Str.ofString x) np) (body:=body) (n:=vs.length) (itA:=rr) (wr:=fun b=>b=rr) (Pos:=fun i h=>h.IsRevIter rr (ρ₀ (.list n)) ((vs.length:Int)- 1- (i:Int)))
  (s₁:=s₁) I₀ (fun b z=>by rw [z];exact bs.new) bs.keep bs.eq (by simpa using hr)
  (fun i h b hp z=>by refine qac hp fun o ho _=>?_;rw [z];exact⟨o,ho⟩) ?_ ?_ h
 ·refine qcw key fun r s' z=>?_
  cases r with
  |ok f=>exact z.after p₀.fr
  |error _=>exact z
 ·intro i hi l ρ σ s fl l' σ' I' hw ag hst hp ht;refine qb5 rfl hlt ag I'.r hst fun its pl r=>?_
  unfold nth at ht;have hi2:vs.length- 1- i<vs.length:=oqg hi
  rw [List.getElem?_reverse hi,List.getElem?_eq_getElem hi2]at ht;refine qac (r.get (List.getElem?_eq_getElem hi2)) fun y ey hyv=>?_
  have ei:(vs.length:Int)- 1- (i:Int)=((vs.length- 1- i:Nat):Int):=oqp hi
  rw [ei]at hp;refine qbu (wpAny_pyNext_rev_item hp pl.isList (by simpa using ey) fun h' hp' hs'=>⟨y,rfl,?_⟩)
  have ei2:((vs.length- 1- i:Nat):Int)- 1=(vs.length:Int)- 1- ((i+1:Nat):Int):=by rw [←ei];exact Int.sub_sub _ _ _
  rw [ei2]at hp';have st:=qp3 (env:=env) (wr:=fun b=>b=rr) (tk:=s.toks) I'.r hw (fun b o z e=>(hs'.2 b z).trans e) (fun b z=>by refine qac hp' fun o ho _=>?_;rw [z];exact⟨o,ho⟩)
  exact qht hx hb (fun i h h' hp k=>hp.at fun o e=>k _ o rfl e) I' hw st (I'.f.heap fun b o z e=>(hs'.2 b (fun q=>(hw b q).2.1 z)).trans e) hp' hyv ht
 ·intro l ρ σ s Q I' ag hst hp hq;have ei:(vs.length:Int)- 1- ((vs.length:Nat):Int)= -1:=by lia
  rw [ei]at hp;exact wpAny_pyNext_rev_end I'.b.hd hp fun h' he=>hq h' fun b o z e=>he b o z e
theorem qmn {F:PF S P} (B:Blt F sc "range" (.type "range")) {body:List Stmt} {mbody:List MS} (hx:qbi sc (Str.ofString x)=true) (ha:OK S C d sc a m) (hb:qfb S C d sc body mbody):
  qey S C d sc (.For (.Name (Str.ofString x) np) (.Call (.Name (Str.ofString "range") np2) [a] [] p2) body [] pos) (.forRange x m mbody):=fun A env l ρ σ s fl l' σ' I h=>by
 refine qba h fun v σ₁ h1 h=>?_
 cases v with
 |int k=>
  dsimp only at h;refine qdu h fun hc h=>?_
  rw [qj2]at h;refine qnz (qj1 B ha I h1 fun ρ₀ s₀ s₁ rr t u v p₀ bs hr=>?_) (fun _=>rfl)
  have p1:Post S noF ρ σ s ρ₀ σ₁ s₁:=p₀.trans (bs.post p₀.rel)
  have I₀:=I.post p1
  have hn:(qbm 0 k).length=k.toNat:=by unfold qbm;simp
  rw [hn]at h;have hrs:Builtin.Range.rangeSize 0 k 1=(k.toNat:Int):=by rw [rangeSize_one];split<;>lia
  refine qbu (wpAny_pyIter_range hr (small_one (by decide) (by decide) (by lia) (by lia)) ?_)
  rw [hrs];have key:=qi4 (target:= .Name (Str.ofString x) np) (body:=body) (n:=k.toNat) (itA:=s₁.heap.objs.size) (wr:=fun b=>b=s₁.heap.objs.size) (Pos:=fun i h=>IsRangeIter h s₁.heap.objs.size (i:Int) ((k.toNat:Int)- (i:Int)) 1)
   (s₁:= {s₁ with heap:=s₁.heap.push {cls:= .type "range_iterator",data:= .fields #[rawInt 0,rawInt (k.toNat:Int),rawInt 1]}}) I₀ (fun b z=>by rw [z];exact qcd _ (Nat.le_refl _)) (fun b o e=>Heap.get?_push_of_some _ e) ⟨_,s₁.toks,rfl⟩ (by simpa using Heap.get?_push_size _ rfl)
   (fun i h b hp z=>by rw [z];exact⟨_,hp⟩) ?_ ?_ h
  ·refine qcw key fun r s' z=>?_
   cases r with
   |ok f=>exact z.after p1.fr
   |error _=>exact z
  ·intro i hi l ρ σ s fl l' σ' I' hw ag hst hp ht;unfold nth at ht;have ev:(qbm 0 k)[i]? =some (.int (i:Int)):=by
    unfold qbm;rw [List.getElem?_map,List.getElem?_range (by simpa using hi)];simp
   rw [ev]at ht;refine qbu (wpAny_pyNext_range_item hp (by lia) fun h' hp' hs'=>⟨_,rfl,?_⟩)
   have hp2:IsRangeIter h' s₁.heap.objs.size ((i+1:Nat):Int) ((k.toNat:Int)- ((i+1:Nat):Int)) 1:=by
    have e1:(i:Int)+1=((i+1:Nat):Int):=by push_cast;rfl
    have e2:(k.toNat:Int)- (i:Int)- 1=(k.toNat:Int)- ((i:Int)+1):=by lia
    rw [←e1,←e2];exact hp'
   have st:=qp3 (env:=env) (wr:=fun b=>b=s₁.heap.objs.size) (tk:=s.toks+1) I'.r hw (fun b o z e=>(hs'.2 b z).trans e) (fun b z=>by rw [z];exact⟨_,hp2⟩)
   exact qht hx hb (fun i h h' hp k=>k _ _ rfl hp) I' hw st (I'.f.heap fun b o z e=>(hs'.2 b (fun q=>(hw b q).2.1 z)).trans e) hp2 (v:= .int (i:Int)) ⟨_,rfl⟩ ht
  ·intro l ρ σ s Q I' ag hst hp hq;exact wpAny_pyNext_range_end I'.b.hd hp (by lia) fun h' he=>hq h' fun b o z e=>he b o z e
 |_=>exact qa3 h
end
end Mine
end
noncomputable section
namespace Mine
open PySem PySem.Calls PyProof.Rows PySem.W
open Sem (wp)
section
variable {w:World} {S:qc5 prog w} {P:Fn→Option Def} {C:Calls} {d:Nat}
variable {sc:Scope} {A:Around} {env:Env} {l l' l₁ l₀:Locs} {ρ ρ' ρ₁ ρ₀:Rho} {σ σ' σ₁ σ₀:St} {s s' s₁ s₀:Shared} {e i a b c:PySem.Expr} {m mi ma mb mc:ME} {x y:String} {pos np ap np2 p2 p3 p4 p5:Pos}
noncomputable def EnumPos (rr it L:Addr) (i:Nat) (h:Heap):Prop:=(∃old,IsEnum h rr it (i:Int) old)∧h.IsListIter it L i
theorem EnumPos.frame {rr it L:Addr} {i:Nat} {h h':Heap} (p:EnumPos rr it L i h) (k: ∀b o,(b=rr∨b=it)→h.get? b=some o→h'.get? b=some o):EnumPos rr it L i h':=by
 obtain⟨⟨old,ho⟩,o,hi,q⟩:=p
 exact⟨⟨old,k _ _ (.inl rfl) ho⟩,o,k _ _ (.inr rfl) hi,q⟩
theorem qoi {F:PF S P} (B:Blt F sc "enumerate" (.type "enumerate")) {body:List Stmt} {mbody:List MS} {k:Nat} (hx:qbi sc (Str.ofString x)=true) (hy:qbi sc (Str.ofString y)=true) (ha:OK S C d sc a m) (hb:qfb S C d sc body mbody):
  qey S C d sc (.For (.Tuple [.Name (Str.ofString x) p3,.Name (Str.ofString y) p4] k p5) (.Call (.Name (Str.ofString "enumerate") np2) [a] [] p2) body [] pos) (.forEnum x y m mbody):=fun A env l ρ σ s fl l' σ' I h=>by
 refine qba h fun v σ₁ h1 h=>?_
 refine qc9 h fun vs hvs h=>?_
 refine qac (qce hvs) fun n e1_1 e1=>?_;subst e1_1
 rw [qp2 vs vs 0 (fun j=>by rw [Nat.zero_add])]at h;refine qnz (qhp B ha I h1 e1 fun ρ₀ s₀ s₁ rr it p₀ bs hni hne he hi=>?_) (fun _=>rfl)
 have I₀:=I.post p₀
 have hlt:n<σ₁.next:=I₀.r.lt (.list n) (by simp [qdw,e1])
 refine qbu (wpAny_pyIter_enum he ?_)
 have key:=qi4 (target:= .Tuple [.Name (Str.ofString x) p3,.Name (Str.ofString y) p4] k p5) (body:=body) (n:=vs.length) (itA:=rr) (wr:=fun b=>b=rr∨b=it) (Pos:=EnumPos rr it (ρ₀ (.list n)))
  (s₁:=s₁) I₀ (fun b z=>by rcases z with rfl|rfl;exact bs.new;exact hni) bs.keep bs.eq ⟨⟨_,he⟩,hi⟩
  (fun i h b hp z=>by obtain⟨⟨old,ho⟩,o,hi,q⟩:=hp;rcases z with rfl|rfl;exact⟨_,ho⟩;exact⟨_,hi⟩) ?_ ?_ h
 ·refine qcw key fun r s' z=>?_
  cases r with
  |ok f=>exact z.after p₀.fr
  |error _=>exact z
 ·intro i hi l ρ σ s fl l' σ' I' hw ag hst hp ht;refine qb5 rfl hlt ag I'.r hst fun its pl r=>?_
  unfold nth at ht;rw [List.getElem?_eq_getElem hi]at ht;refine qac (r.get (List.getElem?_eq_getElem hi)) fun yv ey hyv=>?_
  refine qa1 hp fun z5_0 hli=>?_;refine qaj z5_0 fun old ho=>?_
  refine qbu (wpAny_pyNext_enum_item ho hli pl.isList (by simpa using ey) (Ne.symm hne) fun h' he' hi' ht' hz' hk'=>⟨_,rfl,?_⟩)
  refine qbu (wpAny_letOwnedTupleGo_enum he' fun h₂ he₂ hs₂=>?_)
  have hfresh:s.heap.get? s.heap.objs.size=none:=qcd _ (Nat.le_refl _)
  have hTr:s.heap.objs.size≠rr:=fun q=>by rw [q,ho]at hfresh;cases hfresh
  have keep2: ∀b o,¬(b=rr∨b=it)→s.heap.get? b=some o→h₂.get? b=some o:=fun b o z e=>(hs₂.2 b (fun q=>z (.inl q))).trans (hk' b o (fun q=>z (.inl q)) (fun q=>z (.inr q)) e)
  have hi2:h₂.IsListIter it (ρ₀ (.list n)) (i+1):=by refine qac hi' fun o ho q=>?_;exact⟨o,(hs₂.2 it hne).trans ho,q⟩
  have pos2:EnumPos rr it (ρ₀ (.list n)) (i+1) h₂:=⟨⟨_,by have:=he₂;push_cast;exact this⟩,hi2⟩
  have st:=qp3 (env:=env) (wr:=fun b=>b=rr∨b=it) (tk:=s.toks+1) I'.r hw keep2 (fun b z=>by rcases z with rfl|rfl;exact⟨_,he₂⟩;refine qac hi2 fun o ho _=>?_;exact⟨o,ho⟩)
  have f₂:FR S ρ σ env l h₂:=I'.f.heap fun b o z e=>keep2 b o (fun q=>(hw b q).2.1 z) e
  have hT:h₂.IsTuple s.heap.objs.size #[.int i s.toks,yv]:=⟨_,(hs₂.2 _ hTr).trans ht',rfl,_,rfl⟩
  refine qbu (wpAny_assign_Tuple I'.b.hd hT rfl rfl fun h₃ hx₃=>?_)
  have hx₃:Heap.ExtBut h₂.objs.size h₂ h₃:=hx₃
  have p₃: ∀{G:Addr→Prop},Post S G ρ σ {s with heap:=h₂,toks:=s.toks+1} ρ σ {s with heap:=h₃,toks:=s.toks+1}:= .keeps st.rel fun b o eb=>hx₃ b o (Nat.ne_of_lt (Heap.lt_size eb)) eb
  refine qd7 I'.e (ps:= [(x,.int i),(y,vs[i])]) (l:=l) (p₃ (G:=noF)).rel (f₂.heap fun b o _ eb=>hx₃ b o (Nat.ne_of_lt (Heap.lt_size eb)) eb) ?_ ?_ ?_ fun s₄ p₄ f₄=>?_
  ·intro p hp;rcases List.mem_cons.mp hp with rfl|hp
   ·exact hx
   ·rw [List.mem_singleton.mp hp];exact hy
  ·exact .cons (fun A v Q s h=>wpAny_assign_Name h) (.cons (fun A v Q s h=>wpAny_assign_Name h) .nil)
  ·exact .cons ⟨_,rfl⟩ (.cons hyv .nil)
  ·have I₃:In_ S d A sc env ((l.set x (.int i)).set y vs[i]) ρ σ s₄:=⟨I'.b,I'.e,p₄.rel,f₄⟩
   exact k_mono (hb A env _ ρ σ s₄ fl l' σ' I₃ ht) fun f s₅ z=>qmm (fun i h h' hp k=>hp.frame k) st hw pos2 ((z.after p₄).after p₃)
 ·intro l ρ σ s Q I' ag hst hp hq;refine qb5 rfl hlt ag I'.r hst fun its pl r=>?_
  refine qa1 hp fun z9_0 hli=>?_;refine qaj z9_0 fun old ho=>?_
  exact wpAny_pyNext_enum_end I'.b.hd ho hli pl.isList (by simp [r.length]) fun h' he=>hq h' fun b o z e=>he b o (fun q=>z (.inr q)) e
theorem qmo {F:PF S P} (B:Blt F sc "enumerate" (.type "enumerate")) {body:List Stmt} {t:PySem.Expr} (ha:OK S C d sc a m):
  qey S C d sc (.For t (.Call (.Name (Str.ofString "enumerate") np2) [a] [] p2) body [] pos) (.forEnum0 m):=fun A env l ρ σ s fl l' σ' I h=>by
 refine qba h fun v σ₁ h1 h=>?_
 split at h
 ·rename_i hvs
  refine qkm h ?_
  refine qac (qce hvs) fun n e10_1 e1=>?_;subst e10_1
  refine qnz (qhp B ha I h1 e1 fun ρ₀ s₀ s₁ rr it p₀ bs hni hne he hi=>?_) (fun _=>rfl)
  have I₀:=I.post p₀
  have hlt:n<σ₁.next:=I₀.r.lt (.list n) (by simp [qdw,e1])
  refine qbu (wpAny_pyIter_enum he ?_)
  have key:=qi4 (target:=t) (body:=body) (n:=0) (itA:=rr) (wr:=fun b=>b=rr∨b=it) (Pos:=EnumPos rr it (ρ₀ (.list n))) (qar:=fun σ=>decide (qav (.ref (.list n)) σ=some [])) (turn:=fun _ _ _=>none)
   (s₁:=s₁) I₀ (fun b z=>by rcases z with rfl|rfl;exact bs.new;exact hni) bs.keep bs.eq ⟨⟨_,he⟩,hi⟩
   (fun i h b hp z=>by obtain⟨⟨old,ho⟩,o,hi,q⟩:=hp;rcases z with rfl|rfl;exact⟨_,ho⟩;exact⟨_,hi⟩) (fun i hi=>absurd hi (Nat.not_lt_zero _)) ?_ (fl:= .next) (l':=l) (σ':=σ₁) (qvb (decide_eq_true hvs))
  ·refine qcw key fun r s' z=>?_
   cases r with
   |ok f=>exact z.after p₀.fr
   |error _=>exact z
  ·intro l ρ σ s Q I' ag hst hp hq;refine qb5 rfl hlt ag I'.r hst fun its pl r=>?_
   refine qa1 hp fun z13_0 hli=>?_;refine qaj z13_0 fun old ho=>?_
   exact wpAny_pyNext_enum_end I'.b.hd ho hli pl.isList (by simp [←r.length]) fun h' he=>hq h' fun b o z e=>he b o (fun q=>z (.inr q)) e
 ·exact qa3 h
end
end Mine
end
noncomputable section
namespace Mine
open PySem PySem.Calls PyProof.Rows PySem.W
open Sem (wp)
structure CS (sc isc:Scope) (x:String):Prop where
 kind:isc.kind= .function
 nd:(isc.names.map (·.1)).Nodup
 loc: ∀p∈isc.names,p.2= .local→p.1=Str.ofString x∨p.1=Str.ofString ".0"
 tgt:isc.names.lookup (Str.ofString x)=some .local
 nocell: ∀p∈isc.names,p.2≠ .cell
 free: ∀p∈isc.names,p.2= .free→sc.names.lookup p.1=some .cell
 x0:x≠ ".0"
noncomputable def qtq (env:Env) (n:Str) (k:NameKind):NameKind:=if(k== .free&&env.scope.kind== .function&&env.kindOf n==some .cell)then .cell else k
theorem qca (env:Env) (x:Str): ∀names:List (Str×NameKind),(names.map fun(n,k)=>if(k== .free&&env.scope.kind== .function&&env.kindOf n==some .cell)then(n,NameKind.cell)else(n,k)).lookup x=(names.lookup x).map (qtq env x)
 | []=>rfl
 |(n,k)::r=>by
  have ih:=qca env x r
  show List.lookup x ((if(k==NameKind.free&&env.scope.kind== .function&&env.kindOf n==some .cell)=true then(n,NameKind.cell)else(n,k))::_)=_
  cases hx:x==n with
  |true=>
   have:x=n:=by simpa using hx
   subst this;rw [show List.lookup x ((x,k)::r)=some k by simp];by_cases hc:(k==NameKind.free&&env.scope.kind== .function&&env.kindOf x==some .cell)=true
   ·rw [if_pos hc];simp [qtq,hc]
   ·rw [if_neg hc];simp [qtq,hc]
  |false=>
   rw [show List.lookup x ((n,k)::r)=List.lookup x r by simp [List.lookup_cons,hx]];by_cases hc:(k==NameKind.free&&env.scope.kind== .function&&env.kindOf n==some .cell)=true
   ·rw [if_pos hc];simp only [List.lookup_cons,hx];exact ih
   ·rw [if_neg hc];simp only [List.lookup_cons,hx];exact ih
theorem qk8 {α β:Type} [BEq α] [LawfulBEq α]: ∀{l:List (α×β)} {p:α×β},(l.map (·.1)).Nodup→p∈l→l.lookup p.1=some p.2
 |q::l,p,h,hp=>by
  cases h with
  |cons h1 h2=>
   rcases List.mem_cons.mp hp with rfl|hp
   ·rw [List.lookup_cons,beq_self_eq_true]
   ·have:(p.1==q.1)=false:=by
     rw [beq_eq_false_iff_ne];exact fun e=>h1 p.1 (List.mem_map_of_mem hp) e.symm
    rw [List.lookup_cons,this];exact qk8 h2 hp
theorem qd2 {α β:Type} [BEq α] [LawfulBEq α]: ∀{l:List (α×β)} {x:α} {y:β},l.lookup x=some y→(x,y)∈l
 |q::l,x,y,h=>by
  rw [List.lookup_cons]at h;cases hx:x==q.1 with
  |true=>
   rw [hx]at h;simp at h
   have:x=q.1:=by simpa using hx
   subst this;subst h;exact .head _
  |false=>rw [hx]at h;exact .tail _ (qd2 h)
noncomputable def qgl (env:Env) (p:Str×NameKind) (cs:List (Str×Addr)):List (Str×Addr):=if p.2= .free then(p.1,(env.cells.lookup p.1).getD 0)::cs else cs
theorem qi5 {f:Str×NameKind→List (Str×Addr)→Sem (ForInStep (List (Str×Addr)))} {env:Env}: ∀{names:List (Str×NameKind)} {acc:List (Str×Addr)},(∀p∈names,∀cs,f p cs=pure (.yield (qgl env p cs)))→
  forIn names acc f=pure (names.foldl (fun cs p=>qgl env p cs) acc)
 | [],acc,_=>rfl
 |p::r,acc,h=>by
  rw [List.forIn_cons,h p (.head _),pure_bind];exact qi5 fun q hq=>h q (.tail _ hq)
theorem qp6 {env:Env}: ∀{names:List (Str×NameKind)} {acc:List (Str×Addr)},(∀p∈names,p.2= .free→ ∃c,env.cells.lookup p.1=some c)→ ∀q∈names.foldl (fun cs p=>qgl env p cs) acc,q∈acc∨env.cells.lookup q.1=some q.2
 | [],acc,_,q,hq=> .inl hq
 |p::r,acc,h,q,hq=>by
  rcases qp6 (acc:=qgl env p acc) (fun q hq=>h q (.tail _ hq)) q hq with z|z
  ·unfold qgl at z;split at z
   ·rename_i hf
    refine qaj (h p (.head _) hf) fun c hc=>?_
    rcases List.mem_cons.mp z with rfl|z
    ·right;rw [hc];rfl
    ·exact .inl z
   ·exact .inl z
  ·exact .inr z
theorem qnh {env:Env}: ∀{names:List (Str×NameKind)} {acc:List (Str×Addr)},∀q∈acc,q∈names.foldl (fun cs p=>qgl env p cs) acc
 | [],acc,q,hq=>hq
 |p::r,acc,q,hq=>qnh (names:=r) q (by show q∈qgl env p acc;unfold qgl;split;exact .tail _ hq;exact hq)
theorem qp7 {env:Env}: ∀{names:List (Str×NameKind)} {acc:List (Str×Addr)},∀p∈names,p.2= .free→ ∃c,(p.1,c)∈names.foldl (fun cs p=>qgl env p cs) acc
 |p::r,acc,q,hq,hf=>by
  rcases List.mem_cons.mp hq with rfl|hq
  ·refine⟨(env.cells.lookup q.1).getD 0,qnh (names:=r) _ ?_⟩
   show _∈qgl env q acc
   unfold qgl;rw [if_pos hf];exact .head _
  ·exact qp7 (names:=r) q hq hf
theorem qi6 {α β:Type} [BEq α] [LawfulBEq α]: ∀{l:List (α×β)} {x:α} {y:β},(x,y)∈l→ ∃z,l.lookup x=some z
 |q::l,x,y,h=>by
  rw [List.lookup_cons];cases hx:x==q.1 with
  |true=>exact⟨_,rfl⟩
  |false=>
   rcases List.mem_cons.mp h with e|h
   ·rw [←e]at hx;simp at hx
   ·exact qi6 h
section
variable {w:World} {S:qc5 prog w} {P:Fn→Option Def} {C:Calls} {d:Nat}
variable {sc isc:Scope} {A:Around} {env:Env} {l l' l₁ l₀:Locs} {ρ ρ' ρ₁ ρ₀:Rho} {σ σ' σ₁ σ₀:St} {s s' s₁ s₀:Shared} {e i a b c:PySem.Expr} {m mi ma mb mc:ME} {x y:String} {pos np ap np2 p2 p3 p4 p5:Pos}
theorem qoj (cs:CS sc isc x) (E:EnvFor sc env) (hall: ∀x,env.kindOf x=some .cell→ ∃c,env.cells.lookup x=some c) {GG:Prop} (kk: ∀cl,closureFor isc env=pure cl→(∀n c,cl.lookup n=some c→env.cells.lookup n=some c)→(∀n,isc.names.lookup n=some .free→ ∃c,cl.lookup n=some c)→GG):GG:=by
 have hf: ∀p∈isc.names,p.2= .free→ ∃c,env.cells.lookup p.1=some c:=fun p hp q=>hall _ (E.cell _ (cs.free p hp q))
 refine kk (isc.names.foldl (fun cs p=>qgl env p cs) []) ?_ (fun n c h=>?_) (fun n h=>?_)
 ·simp only [closureFor];rw [qi5 (env:=env) (fun p hp cs=>?_)]
  ·rfl
  ·obtain⟨n,k⟩:=p
   unfold qgl;by_cases q:k= .free
   ·subst q;refine qaj (hf _ hp rfl) fun c hc=>?_
    have hc:env.cells.lookup n=some c:=hc
    simp only [cellOf,hc];rfl
   ·have:(k==NameKind.free)=false:=by simpa using q
    simp only [this,Bool.false_eq_true,if_false,q]
 ·rcases qp6 hf _ (qd2 h)with z|z
  ·cases z
  ·exact z
 ·refine qaj (qp7 (env:=env) (acc:= []) _ (qd2 h) rfl) fun c hc=>?_
  exact qi6 hc
noncomputable def less (l:Locs) (x:String):Locs:=fun y=>if y=x then none else l y
theorem qr6 (l:Locs) (x:String) (v:V):(less l x).set x v=l.set x v:=by
 funext y
 rw [Locs.set_eq,Locs.set_eq];unfold less;show(if y=x then _ else if y=x then _ else _)=if y=x then _ else _
 by_cases q:y=x
 ·rw [if_pos q,if_pos q]
 ·rw [if_neg q,if_neg q,if_neg q]
theorem FR.less {h:Heap} {l₂:Locs} (f:FR S ρ σ env l h) (hl: ∀x v,l₂ x=some v→l x=some v):FR S ρ σ env l₂ h:=by
 obtain⟨⟨m,hm,km⟩,cel,all,there,no,bs,ap,lc⟩:=f
 exact⟨⟨m,hm,fun z u e kz=>km z u (hl z u e) kz⟩,fun z u e kz=>cel z u (hl z u e) kz,all,there,no,bs,ap,lc⟩
theorem qni (cs:CS sc isc x) (E:EnvFor sc env) {cl:List (Str×Addr)} {D:Addr}:EnvFor isc (compEnvC isc cl D env) where
 kind:=cs.kind
 glob:=E.glob
 blt:=E.blt
 loc:=fun y h=>by show(List.map _ _).lookup y=_;rw [qca,h];rfl
 cell:=fun y h=>absurd rfl (cs.nocell _ (qd2 h))
 free:=fun y h=>by
  show(List.map _ _).lookup y=_∨(List.map _ _).lookup y=_
  rw [qca,h];show some (qtq env y .free)=_∨some (qtq env y .free)=_
  unfold qtq;split
  ·exact .inl rfl
  ·exact .inr rfl
 gl:=fun y h=>by show(List.map _ _).lookup y=_;rw [qca,h];rfl
theorem qft (cs:CS sc isc x) (E:EnvFor sc env) {cl:List (Str×Addr)} {D:Addr} {y:Str} {k:NameKind} (h:(compEnvC isc cl D env).kindOf y=some k):
  (k= .local→y=Str.ofString x∨y=Str.ofString ".0")∧(k= .cell∨k= .free→isc.names.lookup y=some .free∧env.kindOf y=some .cell):=by
 have h:(List.map _ isc.names).lookup y=some k:=h
 rw [qca]at h;cases q:isc.names.lookup y with
 |none=>rw [q]at h;exact qa3 h
 |some k0=>
  rw [q]at h;have h:some (qtq env y k0)=some k:=h
  injection h with h
  have hm:=qd2 q
  unfold qtq at h;split at h
  ·rename_i hc
   subst h;simp only [Bool.and_eq_true,beq_iff_eq]at hc;refine⟨fun z=>NameKind.noConfusion z,fun _=>⟨?_,hc.2⟩⟩
   rw [hc.1.1]at q;first|exact q|rw [hc.1.1]
  ·subst h;refine⟨fun z=>cs.loc _ hm z,fun z=>?_⟩
   rcases z with z|z
   ·exact absurd z (cs.nocell _ hm)
   ·subst z;exact⟨rfl,E.cell _ (cs.free _ hm rfl)⟩
theorem qvf (cs:CS sc isc x) (I:In_ S d A sc env l ρ σ s) (h0:l ".0" =none) {cl:List (Str×Addr)} {D:Addr} {h:Heap} {m:Str→Option Value} (hcl: ∀n c,cl.lookup n=some c→env.cells.lookup n=some c) (hcl2: ∀n,isc.names.lookup n=some .free→ ∃c,cl.lookup n=some c)
  (hD:s.heap.get? D=none) (hn:h.Ns D m) (hk: ∀b o,s.heap.get? b=some o→h.get? b=some o):FR S ρ σ (compEnvC isc cl D env) (less l x) h:=by
 have f:=I.f.heap (h':=h) fun b o _ e=>hk b o e
 have fra: ∀b,FrA (compEnvC isc cl D env) b→b=D∨FrA env b:=fun b hb=>by
  rcases hb with hb|⟨y,hy⟩
  ·exact .inl hb
  ·exact .inr (.inr ⟨y,hcl _ _ hy⟩)
 refine⟨⟨m,hn,fun y v e kz=>?_⟩,fun y v e kz=>?_,fun y kz=>?_,fun y c hc=>f.there _ _ (hcl _ _ hc),fun b hb=>?_,fun b hb=>?_,fun y z c hy hz=>f.ap y z c (hcl _ _ hy) (hcl _ _ hz),fun y c hc q=>?_⟩
 ·unfold less at e;by_cases q:y=x
  ·rw [if_pos q]at e;exact qa3 e
  ·rw [if_neg q]at e;rcases(qft cs I.e kz).1 rfl with z|z
   ·exact absurd (qbq z) q
   ·rw [qbq z,h0]at e;exact qa3 e
 ·unfold less at e;by_cases q:y=x
  ·rw [if_pos q]at e;exact qa3 e
  ·rw [if_neg q]at e;obtain⟨k1,k2⟩:isc.names.lookup (Str.ofString y)=some .free∧env.kindOf (Str.ofString y)=some .cell:=by
    rcases kz with kz|kz
    ·exact(qft cs I.e kz).2 (.inl rfl)
    ·exact(qft cs I.e kz).2 (.inr rfl)
   refine qaj (hcl2 _ k1) fun c hc=>?_
   refine qfj (f.cel y v e (.inl k2)) fun c' u hc' hcell hv=>?_
   have hq:=hcl _ _ hc
   rw [hc']at hq;injection hq with hq;exact⟨c,u,hc,hq ▸ hcell,hv⟩
 ·refine qa1 ((qft cs I.e kz).2 (.inl rfl)) fun k1 k2=>?_
  refine qaj (hcl2 _ k1) fun c hc=>?_
  refine qaj (f.there _ _ (hcl _ _ hc)) fun u hu=>?_
  exact⟨c,u,hc,hu⟩
 ·rcases fra b hb with rfl|hb
  ·exact I.r.notOwn hD
  ·exact f.no b hb
 ·rcases fra b hb with rfl|hb
  ·exact I.r.fresh_base hD
  ·exact f.bs b hb
 ·have q:c=D:=q
  subst q;refine qaj (I.f.frThere (.inr ⟨y,hcl _ _ hc⟩)) fun o ho=>?_
  rw [hD]at ho;exact qa3 ho
end
end Mine
end
noncomputable section
namespace Mine
open PySem PySem.Calls PyProof.Rows PySem.W
open Sem (wp)
noncomputable def qvg (C:Calls) (l:Locs) (x:String) (elt:ME) (cond:Option ME) (qar:St→Bool) (v:V):M (Option V):=fun σ=>qkr (qar σ) (match cond with
 |none=>none
 |some c=>some (evE C (l.set x v) c)) (evE C (l.set x v) elt) σ
theorem qvh {b:Bool} {cf:Option (M V)} {ef:M V} {σ:St} {r:Option V×St} {G:Prop} (h:qkr b cf ef σ=some r) (k:b=true→qkr true cf ef σ=some r→G):G:=by
 cases b with
 |false=>exact nomatch h
 |true=>exact k rfl h
section
variable {w:World} {S:qc5 prog w} {P:Fn→Option Def} {C:Calls} {d:Nat}
variable {sc isc:Scope} {A:Around} {env:Env} {l l' l₁ l₀:Locs} {ρ ρ' ρ₁ ρ₀:Rho} {σ σ' σ₁ σ₀ σE:St} {s s' s₁ s₀:Shared} {e i a b c:PySem.Expr} {m mi ma mb mc:ME} {x y:String} {pos np ap np2 p2 p3 p4 p5:Pos}
theorem qvi {X:Addr} {h':Heap} {tk:Nat} (R:Rel S ρ σ s) (hX: ¬Own ρ σ X) (hB:S.B.get? X=none) (hk: ∀b o,b≠X→s.heap.get? b=some o→h'.get? b=some o) (ht: ∃o,h'.get? X=some o):
  Post S (fun b=>b=X) ρ σ s ρ σ {s with heap:=h',toks:=tk}:=by
 refine⟨.refl _ _,Nat.le_refl _,⟨fun b o e=>hk b o (fun q=>by rw [q,hB]at e;cases e) (R.base b o e),R.fresh,R.inj,R.lt,fun l o e=>(R.obj l o e).heap fun l' hm ob eb=>hk _ _ (fun q=>hX ⟨l',qdx e R.noi hm,q⟩) eb,R.noi⟩,
  fun b o e h1 h2=>hk b o h2 e,fun b o e=>?_,fun _ h=> .inl h,rfl,rfl⟩
 by_cases q:b=X
 ·subst q;exact ht
 ·exact⟨o,hk b o q e⟩
theorem qmp {M:Model} {E:Value→Shared→Prop} {v:V} {y:Value} {Q:Unit→Shared→Prop} (R:Rel S ρ σ s) (f:FR S ρ σ env l s.heap)
  (hk:env.scope.kind= .function) (hx:env.kindOf (Str.ofString x)=some .local) (hv:VR ρ σ.next v y)
  (h: ∀s',Post S (fun b=>b=env.locals) ρ σ s ρ σ s'→FR S ρ σ env (l.set x v) s'.heap→Q () s'):wpAny M A (storeName env (Str.ofString x) y) Q E s:=by
 refine qac f.ns fun m hm km=>?_
 refine wpAny_storeName_local hx hm (fun h' hn' hs'=>?_) (by rw [hk];rfl)
 have up: ∀b o,b≠env.locals→s.heap.get? b=some o→h'.get? b=some o:=fun b o hb e=>(hs'.2 b hb).trans e
 refine h _ (qvi R (f.no _ (.inl rfl)) (f.bs _ (.inl rfl)) up (let⟨o,_,_,ho,_⟩:=hn';⟨o,ho⟩)) ⟨⟨_,hn',fun z u e kz=>?_⟩,fun z u e kz=>?_,fun z kz=>?_,fun z c hc=>?_,f.no,f.bs,f.ap,f.lc⟩
 ·by_cases q:z=x
  ·subst q;rw [Locs.at]at e;cases e;exact⟨y,if_pos rfl,hv⟩
  ·rw [Locs.ne q]at e;refine qac (km z u e kz) fun u' a b=>?_
   exact⟨u',(if_neg (fun q'=>q (qbq q'))).trans a,b⟩
 ·have q:z≠x:=fun q=>by subst q;rw [hx]at kz;rcases kz with h|h<;>cases h
  rw [Locs.ne q]at e;refine qfj (f.cel z u e kz) fun c u' a z2_3 b=>?_;refine qac z2_3 fun o ho hd=>?_
  exact⟨c,u',a,⟨o,up c o (f.lc _ _ a) ho,hd⟩,b⟩
 ·obtain⟨c,u',a,o,ho,hd⟩:=f.all z kz
  exact⟨c,u',a,o,up c o (f.lc _ _ a) ho,hd⟩
 ·refine qcv (f.there z c hc) fun u' o ho hd=>?_
  exact⟨u',o,up c o (f.lc _ _ hc) ho,hd⟩
theorem fold6 {α β γ δ ε ζ:Type _} (I:α→β→γ→δ→ε→ζ→Prop) {G:Prop} (h: ∀J:α→β→γ→δ→ε→ζ→Prop,(∀a b c d e f,I a b c d e f→J a b c d e f)→(∀a b c d e f,J a b c d e f→I a b c d e f)→G):G:=
 h I (fun _ _ _ _ _ _ h=>h) fun _ _ _ _ _ _ h=>h
theorem mapC_e {f:V→M (Option V)} {v:V} {vs us:List V} {G:Prop} (h:qgd f (v::vs) σ=some (us,σE)) (k: ∀o σ1 ur,f v σ=some (o,σ1)→qgd f vs σ1=some (ur,σE)→us=o.toList++ur→G):G:=
 qaq h fun o σ1 q h=>qaq h fun ur σ2 q2 h=>by
  revert k;exact qcs h fun k=>k o σ1 ur q q2 rfl
theorem qvj {src:List V} {i:Nat} (h:i<src.length): ∃v,src[i]? =some v∧src.drop i=v::src.drop (i+1):=
 ⟨src[i],List.getElem?_eq_getElem h,List.drop_eq_getElem_cons h⟩
theorem qvk {elt:PySem.Expr} {ifs:List PySem.Expr} {melt:ME} {mcond:Option ME} {o:Option V} {Q:Value→Shared→Prop} {N:Shared→Prop}
  (I:In_ S d A isc env l ρ σ s) (hel:OK S C d isc elt melt) (hcd:(ifs= []∧mcond=none)∨ ∃c mc,ifs= [c]∧mcond=some mc∧OK S C d isc c mc)
  (q:qkr true (match(generalizing:=false) mcond with
   |none=>none
   |some c=>some (evE C l c)) (evE C l melt) σ=some (o,σ₁))
  (hs: ∀ρ' s' u z,o=some u→Post S noF ρ σ s ρ' σ₁ s'→VR ρ' σ₁.next u z→Q z s')
  (hn: ∀ρ' s',o=none→Post S noF ρ σ s ρ' σ₁ s'→N s'):
  qas (model prog w) A (forIn ifs true fun c r=>if r=true then do let ok ←isTrue c env (eval c env);pure (ForInStep.yield ok)else pure (ForInStep.yield r))
   (fun ok s₃=>if ok=true then qas (model prog w) A (eval elt env) Q s₃ else N s₃) s:=by
 rcases hcd with⟨rfl,rfl⟩|⟨c,mc,rfl,rfl,hc⟩
 ·refine qaq q fun u σ4 he q=>?_
  refine qad ?_
  rw [if_pos rfl];refine qd6 (hel.ev A env _ ρ σ s u σ4 I he) fun z s' ρ' p hz=>?_
  revert hs;exact qcs q fun hs=>hs ρ' s' u z rfl p hz
 ·refine qaq q fun bv σ3 hcv q=>?_
  refine qif q fun r eb q=>?_
  subst eb;rw [List.forIn_cons];refine qab ?_
  rw [if_pos rfl];refine qab (k_mono (hc.ts A env _ ρ σ s r σ3 I hcv) fun rb s₃ ⟨hr,ρ₃,p⟩=>qad ?_)
  subst hr;refine qad ?_
  cases rb with
  |true=>
   refine qaq q fun u σ4 he q=>?_
   rw [if_pos rfl];refine qd6 (hel.ev A env _ ρ₃ σ3 s₃ u σ4 ⟨I.1,I.2,p.rel,I.4.post p qfn⟩ he) fun z s' ρ' p' hz=>?_
   revert hs;exact qcs q fun hs=>hs ρ' s' u z rfl (p.trans p') hz
  |false=>
   rw [if_neg Bool.false_ne_true];revert hn;exact qcs (show some ((none:Option V),σ3)=some (o,σ₁)from q) fun hn=>hn ρ₃ s₃ rfl p
theorem qp8 {elt iter:PySem.Expr} {ifs:List PySem.Expr} {melt:ME} {mcond:Option ME} {n:Nat} {itA D:Addr} {cenv:Env} {Pos:Nat→Heap→Prop} {qar:St→Bool} {src us:List V}
  (bd:Bud A d) (R₀:Rel S ρ₀ σ₀ s₀) (hn:src.length=n) (hn2:n≤200000)
  (hel:OK S C d isc elt melt) (hcd:(ifs= []∧mcond=none)∨ ∃c mc,ifs= [c]∧mcond=some mc∧OK S C d isc c mc)
  (E':EnvFor isc cenv) (hx:cenv.kindOf (Str.ofString x)=some .local)
  (fI:s₀.heap.get? itA=none) (fD:s₀.heap.get? D=none) (fC:s₀.heap.get? cenv.locals=none) (dID:itA≠D) (dIC:itA≠cenv.locals) (dDC:D≠cenv.locals)
  (hcells: ∀b,FrA cenv b→b≠itA∧b≠D)
  (hk: ∀b o,s₀.heap.get? b=some o→s₁.heap.get? b=some o) (heq: ∃h tk,s₁= {s₀ with heap:=h,toks:=tk}) (hf:FR S ρ₀ σ₀ cenv (less l x) s₁.heap) (hpos:Pos 0 s₁.heap) (hD:s₁.heap.PlainList D #[])
  (frame: ∀i h h',Pos i h→(∀o,h.get? itA=some o→h'.get? itA=some o)→Pos i h')
  (there: ∀i h,Pos i h→ ∃o,h.get? itA=some o)
  (next: ∀i,i<n→ ∀ρ σ s (Q:Option Value→Shared→Prop) v,Rel S ρ σ s→Agree σ₀.next ρ₀ ρ→qar σ=true→Pos i s.heap→src[i]? =some v→
   (∀y h' tk,VR ρ σ.next v y→Pos (i+1) h'→(∀b o,b≠itA→s.heap.get? b=some o→h'.get? b=some o)→Q (some y) {s with heap:=h',toks:=tk})→wpAny (model prog w) A (pyNext (.ref itA)) Q (fun _ _=>False) s)
  (stop: ∀ρ σ s (Q:Option Value→Shared→Prop),Rel S ρ σ s→Agree σ₀.next ρ₀ ρ→qar σ=true→Pos n s.heap→(∀h',(∀b o,b≠itA→s.heap.get? b=some o→h'.get? b=some o)→Q none {s with heap:=h'})→wpAny (model prog w) A (pyNext (.ref itA)) Q (fun _ _=>False) s)
  (hrun:qgd (qvg C l x melt mcond qar) src σ₀=some (us,σE)) (hend:qar σE=true):
  qci (model prog w) A (.compLoop (.ListComp elt [⟨.Name (Str.ofString x) np,iter,ifs,0⟩] isc pos) 0 (.ref itA) (.ref D) cenv) (fun r s'=>r= .ok .next∧ ∃ρ',Post S (fun b=>b=itA∨b=D∨b=cenv.locals) ρ₀ σ₀ s₀ ρ' σE s'∧FR S ρ' σE cenv (less l x) s'.heap∧ ¬Own ρ' σE D∧
   ∃its,s'.heap.PlainList D its.toArray∧All2 (VR ρ' σE.next) us its∧us.length≤200000) s₁:=by
 have bI:=R₀.fresh_base fI
 have bD:=R₀.fresh_base fD
 refine fold6 (fun i ρ σ acc its s=>Post S (fun b=>b=itA∨b=D∨b=cenv.locals) ρ₀ σ₀ s₀ ρ σ s∧FR S ρ σ cenv (less l x) s.heap∧Pos i s.heap∧ ¬Own ρ σ itA∧ ¬Own ρ σ D∧s.heap.PlainList D (List.toArray its)∧All2 (VR ρ σ.next) acc its) fun J put get=>?_
 have keep: ∀i ρ σ acc its s ρ₃ σ₃ s₃,Post S noF ρ σ s ρ₃ σ₃ s₃→J i ρ σ acc its s→J i ρ₃ σ₃ acc its s₃:=by
  intro i ρ σ acc its s ρ₃ σ₃ s₃ q h;refine qo8 (get _ _ _ _ _ _ h) fun p f hp hoI hoD hL hacc=>?_
  refine qaj hL fun nL eL=>?_
  refine qaj (there _ _ hp) fun oI eI=>?_
  exact put _ _ _ _ _ _ ⟨p.trans (q.weak fun _ _ _ z=>z.elim),f.post q qfn,frame _ _ _ hp fun o e=>q.kept itA o e hoI id,q.notOwn (s0:=s) eI hoI,q.notOwn (s0:=s) eL hoD,⟨nL,q.kept D _ eL hoD id⟩,hacc.mono fun _ _ z=>z.mono q.agree q.le⟩
 have more: ∀i ρ σ acc its s u z h5,J i ρ σ acc its s→VR ρ σ.next u z→h5.PlainList D (its.toArray.push z)→(∀b,b≠D→h5.get? b=s.heap.get? b)→J i ρ σ (acc++ [u]) (its++ [z]) {s with heap:=h5}:=by
  intro i ρ σ acc its s u z h5 h hz hp5 hs5;refine qo8 (get _ _ _ _ _ _ h) fun p f hp hoI hoD hL hacc=>?_
  have p45:=qvi (tk:=s.toks) p.rel hoD bD (fun b o q e=>(hs5 b q).trans e) (let⟨nn,e⟩:=hp5;⟨_,e⟩)
  exact put _ _ _ _ _ _ ⟨p.trans (p45.weak fun _ _ _ q=> .inr (.inl q)),f.heap fun b o q e=>(hs5 b (hcells b q).2).trans e,frame _ _ _ hp fun o e=>(hs5 itA dID).trans e,hoI,hoD,by simpa using hp5,hacc.append (.one hz)⟩
 refine fold2 (fun(k:Nat) s=> ∃i ρ σ acc its ur,k=n- i∧i≤n∧J i ρ σ acc its s∧acc.length≤i∧qgd (qvg C l x melt mcond qar) (src.drop i) σ=some (ur,σE)∧us=acc++ur) fun I putI getI=>?_
 refine qme (Around.under_of_weight rfl) I ?_ n ?_ (fun v=>rfl)
 ·intro k s hI;refine qt5 (getI _ _ hI) fun i ρ σ acc its ur ek hi hJ hlen hm=>?_
  refine qa1 hm fun hm eu=>?_
  refine qo8 (get _ _ _ _ _ _ hJ) fun p f hp hoI hoD hL hacc=>?_
  by_cases hlt:i<n
  ·refine qac (qvj (hn.symm ▸ hlt)) fun v hv hd=>?_
   rw [hd]at hm;refine mapC_e hm fun o σ1 ur' q hm' eur=>?_
   clear hm hd hI;refine qvh q fun hst q=>?_
   refine qbu (next i hlt ρ σ s _ v p.rel p.agree hst hp hv fun y h' tk hy hp' hk'=>?_)
   have p1:=qvi (tk:=tk) p.rel hoI bI hk' (there _ _ hp')
   refine qbu (wpAny_assign_Name (qmp p1.rel (f.heap fun b o z e=>hk' b o (hcells b z).1 e) E'.kind hx hy fun s₂ p2 f2=>?_))
   rw [qr6]at f2;have J2:J (i+1) ρ σ acc its s₂:=put _ _ _ _ _ _ ⟨(p.trans (p1.weak fun _ _ _ z=> .inl z)).trans (p2.weak fun _ _ _ z=> .inr (.inr z)),f2.less (l₂:=less l x) fun y u e=>by
     unfold less at e;rw [Locs.set_eq];show(if y=x then _ else _)=_
     by_cases q:y=x
     ·rw [if_pos q]at e;exact qa3 e
     ·rw [if_neg q]at e;rw [if_neg q];exact e,
    frame _ _ _ hp' fun o e=>p2.kept itA o e hoI dIC,hoI,hoD,hL.at fun o e=>p2.kept D o (hk' D o (Ne.symm dID) e) hoD dDC,hacc⟩
   refine qvk ⟨bd,E',p2.rel,f2⟩ hel hcd q (fun ρ₃ s₃ u z eo p23 hz=>?_) (fun ρ₃ s₃ eo p23=>?_)
   ·have J3:=keep _ _ _ _ _ _ _ _ _ p23 J2
    refine qbu (wpAny_list_append_plain (get _ _ _ _ _ _ J3).2.2.2.2.2.1 (fun h5 hp5 hs5=>?_) ?_)
    ·exact⟨n- (i+1),oqa ek hlt,putI _ _ ⟨i+1,ρ₃,σ1,acc++ [u],its++ [z],ur',rfl,hlt,more _ _ _ _ _ _ _ _ _ J3 hz hp5 hs5.2,by simp;(with_reducible assumption),hm',by rw [eu,eur,eo];simp⟩⟩
    ·have:=hacc.length
     rw [List.size_toArray,sizeLine_eq];lia
   ·exact⟨n- (i+1),oqa ek hlt,putI _ _ ⟨i+1,ρ₃,σ1,acc,its,ur',rfl,hlt,keep _ _ _ _ _ _ _ _ _ p23 J2,by(with_reducible exact oq7 ‹_›),hm',by rw [eu,eur,eo];simp⟩⟩
  ·have hin:n=i:=Nat.le_antisymm (Nat.not_lt.mp hlt) hi
   rw [List.drop_eq_nil_of_le (Nat.le_of_eq (hn.trans hin))]at hm;clear getI putI get put keep more next frame there hI hJ hk hf hpos hD heq hrun;revert eu hend;refine qcs (show some (([]:List V),σ)=some (ur,σE)from hm) fun hend eu=>?_
   refine qbu (stop ρ σ s _ p.rel p.agree hend (hin ▸ hp) fun h' hk'=>⟨rfl,ρ,?_⟩)
   exact⟨p.endIt (wr:=fun b=>b=itA) (tk:=s.toks) R₀ (fun b q=>by rw [q];exact fI) (fun b q=>by rw [q];exact hoI) hk',f.heap fun b o z e=>hk' b o (hcells b z).1 e,hoD,its,hL.at fun o e=>hk' D o (Ne.symm dID) e,by rw [eu];simpa using hacc,by rw [eu];simp;(with_reducible exact Nat.le_trans ‹_› (Nat.le_trans ‹_› ‹_›))⟩
 ·refine qic heq fun hh tk e14_2=>?_;subst e14_2
  exact putI _ _ ⟨0,ρ₀,σ₀,[],[],us,rfl,Nat.zero_le _,put _ _ _ _ _ _ ⟨.keeps R₀ hk,hf,hpos,R₀.notOwn fI,R₀.notOwn fD,hD,.nil⟩,Nat.le_refl _,by rw [List.drop_zero];exact hrun,rfl⟩
end
end Mine
end
noncomputable section
namespace Mine
open PySem PySem.Calls PyProof.Rows PySem.W
open Sem (wp)
section
variable {w:World} {S:qc5 prog w} {P:Fn→Option Def} {C:Calls} {d:Nat}
variable {sc isc:Scope} {A:Around} {env:Env} {l l' l₁ l₀:Locs} {ρ ρ' ρ₁ ρ₀:Rho} {σ σ' σ₁ σ₀ σE:St} {s s' s₁ s₂ s₀:Shared} {e i a b c:PySem.Expr} {m mi ma mb mc:ME} {x y:String} {pos np ap np2 p2 p3 p4 p5:Pos}
noncomputable def qmq (S:qc5 prog w) (ρ₀:Rho) (σ₀:St) (s₀:Shared) (D Cc:Addr) (us:List V) (σE:St) (s':Shared):Prop:=
 s₀.heap.get? D=none∧s₀.heap.get? Cc=none∧D≠Cc∧(∃m,s'.heap.Ns Cc m)∧ ∃ρ',Post S noF ρ₀ σ₀ s₀ ρ' σE s'∧ ¬Own ρ' σE D∧ ¬Own ρ' σE Cc∧ ∃its,s'.heap.PlainList D its.toArray∧All2 (VR ρ' σE.next) us its∧us.length≤200000
theorem qk9 {D Cc:Addr} {us:List V} (R₀:Rel S ρ₀ σ₀ s₀) (h:qmq S ρ₀ σ₀ s₀ D Cc us σE s'):qmd (model prog w) A none (PV S ρ₀ σ₀ s₀ (.ref (.list σE.next)) (σE.new .list (.list us))) (.ref D) Cc (.ok .next) s':=by
 obtain⟨hD,hC,hDC,⟨m,hm⟩,ρ',p,oD,oC,its,pl,r,hl⟩:=h
 refine⟨m,hm,fun h' hs=>?_⟩
 have p1:=p.endIt (wr:=fun b=>b=Cc) (h':=h') (tk:=s'.toks) R₀ (fun b q=>by rw [q];exact hC) (fun b q=>by rw [q];exact oC) (fun b o q e=>(hs.2 b q).trans e)
 have pl':h'.PlainList D its.toArray:=pl.at fun o e=>(hs.2 D hDC).trans e
 have ag:=qbz (ρ:=ρ') (l:= .list σE.next) (a:=D) (k:=σE.next) rfl
 refine⟨qgs ρ' (.list σE.next) D,Post.adopt (s₁:= {s' with heap:=h'}) (lo:= .list σE.next) (h':=h') (tk:=s'.toks) p1 rfl rfl (by rintro ⟨_,_,h⟩;cases h) hD oD (R₀.fresh_base hD) (fun b o _ e=>e) ?_,?_⟩
 ·refine⟨its,?_,r.mono fun _ _ y=>y.mono ag (Nat.le_succ _),hl⟩
  rw [qa2];exact pl'
 ·exact⟨Nat.lt_succ_self _,by rw [qa2]⟩
theorem qr7 {elt iter:PySem.Expr} {ifs:List PySem.Expr} {melt:ME} {mcond:Option ME} {n:Nat} {itA:Addr} {Pos:Nat→Heap→Prop} {qar:St→Bool} {src us:List V} {use:Option (Value→Sem Unit)} {Q:Value→Shared→Prop} {cl:List (Str×Addr)}
  (cs:CS sc isc x) (I:In_ S d A sc env l ρ₀ σ₀ s₀) (h0:l ".0" =none) (hclo:(∀n c,cl.lookup n=some c→env.cells.lookup n=some c)∧ ∀n,isc.names.lookup n=some .free→ ∃c,cl.lookup n=some c)
  (hn:src.length=n) (hn2:n≤200000) (hel:OK S C d isc elt melt) (hcd:(ifs= []∧mcond=none)∨ ∃c mc,ifs= [c]∧mcond=some mc∧OK S C d isc c mc)
  (bs:Beside s₀ s₂ itA) (hpos:Pos 0 s₂.heap)
  (frame: ∀i h h',Pos i h→(∀o,h.get? itA=some o→h'.get? itA=some o)→Pos i h')
  (there: ∀i h,Pos i h→ ∃o,h.get? itA=some o)
  (next: ∀i,i<n→ ∀ρ σ s (Q:Option Value→Shared→Prop) v,Rel S ρ σ s→Agree σ₀.next ρ₀ ρ→qar σ=true→Pos i s.heap→src[i]? =some v→
   (∀y h' tk,VR ρ σ.next v y→Pos (i+1) h'→(∀b o,b≠itA→s.heap.get? b=some o→h'.get? b=some o)→Q (some y) {s with heap:=h',toks:=tk})→wpAny (model prog w) A (pyNext (.ref itA)) Q (fun _ _=>False) s)
  (stop: ∀ρ σ s (Q:Option Value→Shared→Prop),Rel S ρ σ s→Agree σ₀.next ρ₀ ρ→qar σ=true→Pos n s.heap→(∀h',(∀b o,b≠itA→s.heap.get? b=some o→h'.get? b=some o)→Q none {s with heap:=h'})→wpAny (model prog w) A (pyNext (.ref itA)) Q (fun _ _=>False) s)
  (self: ∀s (Q:Value→Shared→Prop),Pos 0 s.heap→Q (.ref itA) s→wpAny (model prog w) A (pyIter (.ref itA)) Q (fun _ _=>False) s)
  (hrun:qgd (qvg C l x melt mcond qar) src σ₀=some (us,σE)) (hend:qar σE=true)
  (K: ∀D Cc s',qmq S ρ₀ σ₀ s₀ D Cc us σE s'→qmd (model prog w) A use Q (.ref D) Cc (.ok .next) s'):
  qas (model prog w) A (PySem.newList []) (fun acc s₃=>qas (model prog w) A (newFunctionEnv isc env.globals cl [] env.qual none .none (some env)) (fun cenv s₄=>
   qci (model prog w) A (.compStart (.ListComp elt [⟨.Name (Str.ofString x) np,iter,ifs,0⟩] isc pos) 0 (.ref itA) acc {cenv with scope:=relabel isc env}) (qmd (model prog w) A use Q acc cenv.locals) s₄) s₃) s₂:=by
 refine qbu (wpAny_newObj_type ?_ (by size_fits))
 refine qbu (wpAny_newFunctionEnv cs.nocell (fun x hx=>by cases hx) (fun h' hns hsb=>?_) cs.kind)
 have hsb:Heap.SameBut (s₂.heap.push {cls:= .type "list",data:= .seq #[]}).objs.size ((s₂.heap.push {cls:= .type "list",data:= .seq #[]}).push {cls:= .type "dict",data:= .dict #[]}) h':=hsb
 have z1:(s₂.heap.push {cls:= .type "list",data:= .seq #[]}).objs.size=s₂.heap.objs.size+1:=Heap.size_push ..
 have k1: ∀b o,s₂.heap.get? b=some o→h'.get? b=some o:=fun b o e=>(hsb.2 b (by rw [z1];exact Nat.ne_of_lt (Nat.lt_succ_of_lt (Heap.lt_size e)))).trans (Heap.get?_push_of_some _ (Heap.get?_push_of_some _ e))
 have kD:h'.get? s₂.heap.objs.size=some {cls:= .type "list",data:= .seq #[]}:=(hsb.2 _ (by rw [z1];exact Nat.ne_of_lt (Nat.lt_succ_self _))).trans (Heap.get?_push_of_some _ (Heap.get?_push_size _ rfl))
 have old: ∀k,s₂.heap.objs.size≤k→s₀.heap.get? k=none:=fun k hk=>by
  cases q:s₀.heap.get? k with
  |none=>rfl
  |some o=>exact absurd (Heap.lt_size (bs.keep _ _ q)) (Nat.not_lt.mpr hk)
 refine qaj (there _ _ hpos) fun oI eI=>?_
 have ltI:itA<s₂.heap.objs.size:=Heap.lt_size eI
 show qci _ _ (.compStart _ 0 (.ref itA) (.ref s₂.heap.objs.size) (compEnvC isc cl (s₂.heap.push {cls:= .type "list",data:= .seq #[]}).objs.size env)) (qmd _ _ use Q (.ref s₂.heap.objs.size) (s₂.heap.push {cls:= .type "list",data:= .seq #[]}).objs.size) _
 rw [z1]at hns ⊢;have fr:=qvf cs I h0 (D:=s₂.heap.objs.size+1) (h:=h') hclo.1 hclo.2 (old _ (Nat.le_succ _)) hns (fun b o e=>k1 b o (bs.keep b o e))
 have hcells: ∀b,FrA (compEnvC isc cl (s₂.heap.objs.size+1) env) b→b≠itA∧b≠s₂.heap.objs.size:=fun b hb=>by
  rcases hb with hb|⟨y,hy⟩
  ·have hb:b=s₂.heap.objs.size+1:=hb
   exact⟨fun q=>Nat.ne_of_lt (Nat.lt_succ_of_lt ltI) (q.symm.trans hb),fun q=>Nat.ne_of_lt (Nat.lt_succ_self _) (q.symm.trans hb)⟩
  ·refine qaj (I.f.frThere (.inr ⟨y,hclo.1 _ _ hy⟩)) fun o ho=>?_
   exact⟨fun q=>(by rw [q,bs.new]at ho;cases ho),fun q=>(by rw [q,old _ (Nat.le_refl _)]at ho;cases ho)⟩
 have pos':Pos 0 h':=frame _ _ _ hpos fun o e=>k1 _ o e
 have loop:=qp8 (iter:=iter) (np:=np) (pos:=pos) (s₁:= {s₂ with heap:=h'}) I.b I.r hn hn2 hel hcd (qni cs I.e (cl:=cl) (D:=s₂.heap.objs.size+1)) ((qni cs I.e).loc _ cs.tgt) bs.new (old _ (Nat.le_refl _)) (old _ (Nat.le_succ _)) (Nat.ne_of_lt ltI) (Nat.ne_of_lt (Nat.lt_succ_of_lt ltI)) (Nat.ne_of_lt (Nat.lt_succ_self _)) hcells
  (fun b o e=>k1 b o (bs.keep b o e)) (let⟨hh,tk,q⟩:=bs.eq;⟨h',tk,by rw [q]⟩) fr pos' ⟨0,kD⟩ frame there next stop hrun hend
 have fin:qci (model prog w) A (.compLoop (.ListComp elt [⟨.Name (Str.ofString x) np,iter,ifs,0⟩] isc pos) 0 (.ref itA) (.ref s₂.heap.objs.size) (compEnvC isc cl (s₂.heap.objs.size+1) env)) (qmd (model prog w) A use Q (.ref s₂.heap.objs.size) (s₂.heap.objs.size+1)) {s₂ with heap:=h'}:=by
  refine qcw loop fun r s' z=>?_
  obtain⟨rfl,ρ',p,f,oD,its,pl,r,hl⟩:=z
  refine K _ _ _ ⟨old _ (Nat.le_refl _),old _ (Nat.le_succ _),Nat.ne_of_lt (Nat.lt_succ_self _),let⟨m,hm,_⟩:=f.ns;⟨m,hm⟩,ρ',p.weak fun b o e q=>?_,oD,f.no _ (.inl rfl),its,pl,r,hl⟩
  rcases q with q|q|q
  ·rw [q,bs.new]at e;cases e
  ·rw [q,old _ (Nat.le_refl _)]at e;cases e
  ·have q:b=s₂.heap.objs.size+1:=q
   rw [q,old _ (Nat.le_succ _)]at e;cases e
 exact qky (Around.under_of_weight rfl) fin (qbu (self _ _ pos' fin))
end
end Mine
end
noncomputable section
namespace Mine
open PySem PySem.Calls PyProof.Rows PySem.W
open Sem (wp)
section
variable {w:World} {S:qc5 prog w} {P:Fn→Option Def} {C:Calls} {d:Nat}
variable {sc isc:Scope} {A:Around} {env:Env} {l l' l₁ l₀:Locs} {ρ ρ' ρ₁ ρ₀:Rho} {σ σ' σ₁ σ₀ σE:St} {s s' s₁ s₂ s₀:Shared} {e i a b c:PySem.Expr} {m mi ma mb mc:ME} {x y:String} {pos np ap np2 p2 p3 p4 p5:Pos}
structure ItOK (S:qc5 prog w) (A:Around) (ρ₀:Rho) (σ₀:St) (itA:Addr) (qar:St→Bool) (src:List V) (Pos:Nat→Heap→Prop):Prop where
 frame: ∀i h h',Pos i h→(∀o,h.get? itA=some o→h'.get? itA=some o)→Pos i h'
 there: ∀i h,Pos i h→ ∃o,h.get? itA=some o
 next: ∀i,i<src.length→ ∀ρ σ s (Q:Option Value→Shared→Prop) v,Rel S ρ σ s→Agree σ₀.next ρ₀ ρ→qar σ=true→Pos i s.heap→src[i]? =some v→
   (∀y h' tk,VR ρ σ.next v y→Pos (i+1) h'→(∀b o,b≠itA→s.heap.get? b=some o→h'.get? b=some o)→Q (some y) {s with heap:=h',toks:=tk})→wpAny (model prog w) A (pyNext (.ref itA)) Q (fun _ _=>False) s
 stop: ∀ρ σ s (Q:Option Value→Shared→Prop),Rel S ρ σ s→Agree σ₀.next ρ₀ ρ→qar σ=true→Pos src.length s.heap→(∀h',(∀b o,b≠itA→s.heap.get? b=some o→h'.get? b=some o)→Q none {s with heap:=h'})→wpAny (model prog w) A (pyNext (.ref itA)) Q (fun _ _=>False) s
 self: ∀s (Q:Value→Shared→Prop),Pos 0 s.heap→Q (.ref itA) s→wpAny (model prog w) A (pyIter (.ref itA)) Q (fun _ _=>False) s
variable (S C d) in
noncomputable def qla (sc:Scope) (iter:PySem.Expr) (k:Nat) (its:List ME):Prop:=(∀env y,foldedSetIterable iter env y=pure y)∧ ∀A env l ρ σ s ws σ₀ src,In_ S d A sc env l ρ σ s→qdc C l its σ=some (ws,σ₀)→qie k ws σ₀=some src→ ∀Q:Value→Shared→Prop,
 (src.length≤200000→ ∀ρ₀ s₀ s₂ itA Pos,Post S noF ρ σ s ρ₀ σ₀ s₀→Beside s₀ s₂ itA→Pos 0 s₂.heap→ItOK S A ρ₀ σ₀ itA (qar k ws src) src Pos→Q (.ref itA) s₂)→qas (model prog w) A (eval iter env) (fun x s₁=>qas (model prog w) A (pyIter x) Q s₁) s
theorem qr8 {it:PySem.Expr} (hs: ∀env y,foldedSetIterable it env y=pure y) (hit:qb1 (S:=S) C d sc it m):qla S C d sc it 0 [m]:=⟨hs,fun A env l ρ σ s ws σ₀ src I h h2 Q K=>by
 refine qaq h fun v σ₁ h1 h=>?_
 refine qaq h fun us σ₂ h3 h=>?_
 simp only [Option.some.injEq,Prod.mk.injEq]at h3 h;obtain⟨rfl,rfl⟩:=h3
 refine qa1 h fun e1_0 e1_1=>?_;subst e1_0;subst e1_1
 have h2:qav v σ₁=some src:=h2
 refine qac (qce h2) fun n e2_1 e1=>?_;subst e2_1
 refine qd6 (hit A env l ρ σ s _ _ I h1) fun y s₀ ρ₀ p₀ hy=>?_
 refine qa1 hy fun hlt e3_1=>?_;subst e3_1
 refine qao (p₀.rel.list e1) fun its pl r hl=>?_
 refine qbu (wpAny_pyIter_list pl.isList (K hl ρ₀ s₀ _ _ (fun i h=>h.IsListIter s₀.heap.objs.size (ρ₀ (.list n)) i) p₀ ⟨fun b o e=>Heap.get?_push_of_some _ e,qcd _ (Nat.le_refl _),_,s₀.toks,rfl⟩ ⟨_,Heap.get?_push_size _ rfl,rfl,rfl⟩ ?_))
 refine⟨fun i h h' hp k=>let⟨o,ho,q⟩:=hp;⟨o,k _ ho,q⟩,fun i h hp=>let⟨o,ho,_⟩:=hp;⟨o,ho⟩,fun i hi ρ σ s Q v R ag hst hp hv hq=>?_,fun ρ σ s Q R ag hst hp hq=>?_,fun s Q hp hq=>wpAny_pyIter_listiter hp hq⟩
 ·refine qb5 rfl hlt ag R hst fun its pl r=>?_
  refine qac (r.get hv) fun y ey hyv=>?_
  exact wpAny_pyNext_list_item hp pl.isList (by simpa using ey) fun h' hp' hs'=>hq y h' s.toks hyv hp' fun b o z e=>(hs'.2 b z).trans e
 ·refine qb5 rfl hlt ag R hst fun its pl r=>?_
  exact wpAny_pyNext_list_end I.b.hd hp pl.isList (by simp [r.length]) fun h' he=>hq h' fun b o z e=>he b o z e⟩
theorem qnj {k j:Int} {r:Addr} {t u v:Tok} {Q:Value→Shared→Prop} (hh:A.handled=none) (hk: -100000≤k∧k≤100000) (hj: -100000≤j∧j≤100000) (hr:IsRange s₁.heap r k j 1 t u v) {st:St→Bool}
  (K: ∀s₂ itA Pos,Beside s₁ s₂ itA→Pos 0 s₂.heap→ItOK S A ρ₀ σ₀ itA st (qbm k j) Pos→Q (.ref itA) s₂):wpAny (model prog w) A (pyIter (.ref r)) Q (fun _ _=>False) s₁:=by
 have hrs:Builtin.Range.rangeSize k j 1=((j- k).toNat:Int):=by rw [rangeSize_one];split<;>lia
 have hn:(qbm k j).length=(j- k).toNat:=by unfold qbm;simp
 refine wpAny_pyIter_range hr (small_one (by lia) (by lia) (by lia) (by lia)) ?_
 rw [hrs];refine K _ _ (fun i h=>IsRangeIter h s₁.heap.objs.size (k+(i:Int)) (((j- k).toNat:Int)- (i:Int)) 1) ⟨fun b o e=>Heap.get?_push_of_some _ e,qcd _ (Nat.le_refl _),_,s₁.toks,rfl⟩ (by simpa using Heap.get?_push_size _ rfl) ?_
 refine⟨fun i h h' hp k=>k _ hp,fun i h hp=>⟨_,hp⟩,fun i hi ρ σ s Q v R ag hst hp hv hq=>?_,fun ρ σ s Q R ag hst hp hq=>?_,fun s Q hp hq=>?_⟩
 ·rw [hn]at hi;have ev:(qbm k j)[i]? =some (.int (k+(i:Int))):=by
   unfold qbm;rw [List.getElem?_map,List.getElem?_range hi];rfl
  rw [ev]at hv;cases hv;refine wpAny_pyNext_range_item hp (by lia) fun h' hp' hs'=>hq _ h' _ ⟨_,rfl⟩ ?_ fun b o z e=>(hs'.2 b z).trans e
  have e1:k+(i:Int)+1=k+((i+1:Nat):Int):=by push_cast;lia
  have e2:((j- k).toNat:Int)- (i:Int)- 1=((j- k).toNat:Int)- ((i+1:Nat):Int):=by push_cast;lia
  rw [←e1,←e2];exact hp'
 ·rw [hn]at hp;exact wpAny_pyNext_range_end hh hp (by lia) fun h' he=>hq h' fun b o z e=>he b o z e
 ·exact wpAny_pyIter_rangeiter hp hq
theorem qok {F:PF S P} (B:Blt F sc "range" (.type "range")) (ha:OK S C d sc a m):qla S C d sc (.Call (.Name (Str.ofString "range") np) [a] [] p2) 1 [m]:=⟨fun _ _=>rfl,fun A env l ρ σ s ws σ₀ src I h h2 Q K=>by
 refine qaq h fun v σ₁ h1 h=>?_
 refine qaq h fun us σ₂ h3 h=>?_
 simp only [Option.some.injEq,Prod.mk.injEq]at h3 h;obtain⟨rfl,rfl⟩:=h3
 refine qa1 h fun e9_0 e9_1=>?_;subst e9_0;subst e9_1
 cases v with
 |int k=>
  have h2:(if-100000≤k∧k≤100000 then some (qbm 0 k)else none)=some src:=h2
  split at h2
  ·rename_i hc
   cases h2
   refine qj1 B ha I h1 fun ρ₁ s₀ s₁ r t u v p bs hr=>?_
   exact qbu (qnj (ρ₀:=ρ₁) (σ₀:=σ₁) I.b.hd (by decide) hc hr fun s₂ itA Pos b2 h0 it=>K (by unfold qbm;simp;lia) ρ₁ s₁ s₂ itA Pos (p.trans (bs.post p.rel)) b2 h0 it)
  ·cases h2
 |_=>cases h2⟩
theorem qol {F:PF S P} (B:Blt F sc "range" (.type "range")) (ha:OK S C d sc a ma) (hb:OK S C d sc b mb):qla S C d sc (.Call (.Name (Str.ofString "range") np) [a,b] [] p2) 2 [ma,mb]:=⟨fun _ _=>rfl,fun A env l ρ σ s ws σ₀ src I h h2 Q K=>by
 refine qaq h fun v σ₁ h1 h=>?_
 refine qaq h fun us σ₂ h3 h=>?_
 refine qaq h3 fun v2 σ₃ h4 h3=>?_
 refine qaq h3 fun us2 σ₄ h5 h3=>?_
 simp only [Option.some.injEq,Prod.mk.injEq]at h5 h3 h;obtain⟨rfl,rfl⟩:=h5
 refine qa1 h3 fun e11_0 e11_1=>?_;subst e11_0;subst e11_1
 refine qa1 h fun e12_0 e12_1=>?_;subst e12_0;subst e12_1
 cases v with
 |int k=>
  cases v2 with
  |int j=>
   have h2:(if-100000≤k∧k≤100000∧ -100000≤j∧j≤100000 then some (qbm k j)else none)=some src:=h2
   split at h2
   ·rename_i hc
    cases h2
    refine qr4 B ha hb I h1 h4 fun ρ₁ s₀ s₁ r t u v p bs hr=>?_
    exact qbu (qnj (ρ₀:=ρ₁) (σ₀:=σ₃) I.b.hd ⟨hc.1,hc.2.1⟩ hc.2.2 hr fun s₂ itA Pos b2 h0 it=>K (by unfold qbm;simp;lia) ρ₁ s₁ s₂ itA Pos (p.trans (bs.post p.rel)) b2 h0 it)
   ·cases h2
  |_=>cases h2
 |_=>cases h2⟩
theorem qp9 {elt iter:PySem.Expr} {ifs:List PySem.Expr} {melt:ME} {mcond:Option ME} {k:Nat} {its:List ME} {v:V} {use:Option (Value→Sem Unit)} {Q:Value→Shared→Prop}
  (cs:CS sc isc x) (hsrc:qla S C d sc iter k its) (hel:OK S C d isc elt melt) (hcd:(ifs= []∧mcond=none)∨ ∃c mc,ifs= [c]∧mcond=some mc∧OK S C d isc c mc)
  (I:In_ S d A sc env l ρ σ s) (h:evE C l (.comp melt x k its mcond) σ=some (v,σ'))
  (K: ∀ρ₀ σ₀ s₀ D Cc us σE s',Post S noF ρ σ s ρ₀ σ₀ s₀→qmq S ρ₀ σ₀ s₀ D Cc us σE s'→v= .ref (.list σE.next)→σ'=σE.new .list (.list us)→qmd (model prog w) A use Q (.ref D) Cc (.ok .next) s'):
  qas (model prog w) A (comprehension (.ListComp elt [⟨.Name (Str.ofString x) np,iter,ifs,0⟩] isc pos) isc env p2 (PySem.newList []) false (eval iter env) use) Q s:=by
 rw [qm7]at h;refine qaq h fun ws σ₀ h1 h=>?_
 refine qc9 h fun src hsrc2 h=>?_
 refine qdu hsrc2 fun h0 hsrc2=>?_
 refine qaq h fun us σE h2 h=>?_
 split at h
 ·rename_i hst
  have hv:v= .ref (.list σE.next)∧σ'=σE.new .list (.list us):=by
   unfold newList at h;simp only [Option.some.injEq,Prod.mk.injEq]at h;exact⟨h.1.symm,h.2.symm⟩
  have h0:l ".0" =none:=by simpa using h0
  refine qoj cs I.e (fun x hx=>let⟨c,y,hc,_⟩:=I.f.all x hx;⟨c,hc⟩) fun cl hcl hcl2 hcl3=>?_
  refine qy8 (g:=⟨.Name (Str.ofString x) np,iter,ifs,0⟩) (gs:= []) rfl (hsrc.1 env) hcl cs.kind (fun p hp hl=>by rw [qk8 cs.nd hp,hl]) ?_
  refine hsrc.2 A env l ρ σ s ws σ₀ src I h1 hsrc2 _ fun hlen ρ₀ s₀ s₂ itA Pos p bs hpos it=>?_
  exact qr7 cs (I.post p) h0 ⟨hcl2,hcl3⟩ rfl hlen hel hcd bs hpos it.frame it.there it.next it.stop it.self h2 hst fun D Cc s' hce=>K ρ₀ σ₀ s₀ D Cc us σE s' p hce hv.1 hv.2
 ·exact qa3 h
theorem qqa {elt iter:PySem.Expr} {ifs:List PySem.Expr} {melt:ME} {mcond:Option ME} {k:Nat} {its:List ME}
  (cs:CS sc isc x) (hsrc:qla S C d sc iter k its) (hel:OK S C d isc elt melt) (hcd:(ifs= []∧mcond=none)∨ ∃c mc,ifs= [c]∧mcond=some mc∧OK S C d isc c mc):
  qb1 (S:=S) C d sc (.ListComp elt [⟨.Name (Str.ofString x) np,iter,ifs,0⟩] isc pos) (.comp melt x k its mcond):=fun A env l ρ σ s v σ' I h=>by
 rw [arm_eval_ListComp];refine qp9 cs hsrc hel hcd I h fun ρ₀ σ₀ s₀ D Cc us σE s' p hce e1 e2=>?_
 subst e1 e2;refine qac (qk9 (A:=A) p.rel hce) fun m hm hq=>?_
 exact⟨m,hm,fun h' hs=>(hq h' hs).after p⟩
end
end Mine
end
noncomputable section
namespace Mine
open PySem PySem.Calls PyProof.Rows PySem.W
open Sem (wp)
section
variable {w:World} {S:qc5 prog w} {P:Fn→Option Def} {C:Calls} {d:Nat}
variable {sc isc:Scope} {A:Around} {env:Env} {l l' l₁ l₀:Locs} {ρ ρ' ρ₁ ρ₀:Rho} {σ σ' σ₁ σ₀ σE:St} {s s' s₁ s₂ s₀:Shared} {e i a b c:PySem.Expr} {m mi ma mb mc:ME} {x y:String} {pos np ap np2 p2 p3 p4 p5:Pos}
theorem qom (elt:PySem.Expr) (gs:List Comprehension) (t:Str) (ln:Nat):swapsWith (.ListComp elt gs isc pos) (some (.Name t np)) ln env=pure (env.blockKind== .function&&env.kindOf t==some .local&&np.line==pos.line&& !(isc.names.any fun(n,k)=>n==t&&(k== .local||k== .cell))):=rfl
theorem qvl {D Cc:Addr} {o:MObj} (hd:D≠Cc) (h: ¬Own ρ σ Cc): ¬Own (qgs ρ (.list σ.next) D) ⟨upd σ.heap (.list σ.next) o,σ.next+1⟩ Cc:=by
 rintro ⟨lo,hc,q⟩
 by_cases e:lo= .list σ.next
 ·subst e;rw [qa2]at q;exact hd q
 ·rw [qgs,if_neg e]at q;refine h ⟨lo,?_,q⟩
  have k: ∀l',l'≠ .list σ.next→(upd σ.heap (.list σ.next) o) l'=σ.heap l':=fun l' h=>if_neg h
  cases lo with
  |idict c n=>
   have hc:((upd σ.heap (.list σ.next) o) (.inst c n)).isSome=true:=hc
   rw [k _ (by intro z;cases z)]at hc;exact hc
  |_=>
   have hc:=hc
   simp only [qdw]at hc ⊢;rw [k _ e]at hc;exact hc
theorem qon {elt iter:PySem.Expr} {ifs:List PySem.Expr} {melt:ME} {mcond:Option ME} {k:Nat} {its:List ME} (hy:qbi sc (Str.ofString y)=true)
  (cs:CS sc isc x) (hsrc:qla S C d sc iter k its) (hel:OK S C d isc elt melt) (hcd:(ifs= []∧mcond=none)∨ ∃c mc,ifs= [c]∧mcond=some mc∧OK S C d isc c mc):
  qey S C d sc (.Assign [.Name (Str.ofString y) np2] (.ListComp elt [⟨.Name (Str.ofString x) np,iter,ifs,0⟩] isc pos) p2) (.asgVar y (.comp melt x k its mcond)):=fun A env l ρ σ s fl l' σ' I h=>by
 refine qba h fun v σ₁ h1 h=>?_
 refine qkm h ?_
 have hk:env.kindOf (Str.ofString y)=some .local∨env.kindOf (Str.ofString y)=some .cell:=by
  unfold qbi at hy;split at hy
  ·rename_i q;exact .inl (I.e.loc _ q)
  ·rename_i q;exact .inr (I.e.cell _ q)
  ·cases hy
 have e0:=qom (isc:=isc) (env:=env) (np:=np2) (pos:=pos) elt [⟨.Name (Str.ofString x) np,iter,ifs,0⟩] (Str.ofString y) p2.line
 generalize (env.blockKind== .function&&env.kindOf (Str.ofString y)==some .local&&np2.line==pos.line&& !(isc.names.any fun(n,k)=>n==Str.ofString y&&(k== .local||k== .cell)))=bb at e0
 cases bb
 case true=>
  rw [exec_Assign_Name_used _ _ _ _ e0,arm_evalThenUse_ListComp];refine qab (qcu (qab (qab (k_mono (qp9 (v:=v) (σ':=σ₁) (use:=some (assign (.Name (Str.ofString y) np2) env)) (Q:=fun _ s'=>PS S env ρ σ s .next (l.set y v) σ₁ .next s') cs hsrc hel hcd I h1 fun ρ₀ σ₀ s₀ D Cc us σE s' p hce e1 e2=>?_) (fun _ s' z=>qad (qad z))))))
  subst e1 e2;obtain⟨hD,hC,hDC,⟨m,hm⟩,ρ',p',oD,oC,its',pl,r,hl⟩:=hce
  have ag:=qbz (ρ:=ρ') (l:= .list σE.next) (a:=D) (k:=σE.next) rfl
  have pa:Post S noF ρ₀ σ₀ s₀ (qgs ρ' (.list σE.next) D) (σE.new .list (.list us)) s':=Post.adopt (lo:= .list σE.next) (h':=s'.heap) (tk:=s'.toks) p' rfl rfl (by rintro ⟨_,_,h⟩;cases h) hD oD (p.rel.fresh_base hD) (fun b o _ e=>e) ⟨its',by rw [qa2];exact pl,r.mono fun _ _ y=>y.mono ag (Nat.le_succ _),hl⟩
  have I₀:=I.post p
  have I₁:=I₀.post pa
  show qas _ _ (assign (.Name (Str.ofString y) np2) env (.ref D)) _ _
  refine qbu (wpAny_assign_Name (qd0 I₁.r I₁.f I.e.kind hk (v:= .ref (.list σE.next)) ⟨Nat.lt_succ_self _,by rw [qa2]⟩ fun s₂ p₂ f₂=>?_))
  have cF: ∀b,FrA env b→b≠Cc:=fun b hb q=>by
   refine qaj (I₀.f.frThere hb) fun o ho=>?_
   rw [q,hC]at ho;cases ho
  have oC2: ¬Own (qgs ρ' (.list σE.next) D) (σE.new .list (.list us)) Cc:=qvl hDC oC
  refine⟨m,hm.at' fun o e=>p₂.kept Cc o e oC2 fun q=>cF Cc q rfl,fun h' hs=>?_⟩
  have pall:=(pa.fr.trans p₂).endIt (wr:=fun b=>b=Cc) (h':=h') (tk:=s₂.toks) p.rel (fun b q=>by rw [q];exact hC) (fun b q=>by rw [q];exact oC2) (fun b o q e=>(hs.2 b q).trans e)
  exact⟨_,p.fr.trans pall,f₂.heap fun b o z e=>(hs.2 b (cF b z)).trans e,rfl⟩
 case false=>
  rw [exec_Assign_Name env _ _ _ _ e0];refine qab (qcu (qd1 (qqa cs hsrc hel hcd A env l ρ σ s v σ₁ I h1) fun z s₁ ρ₁ p hz=>qab (qcu (qab (qbu (wpAny_bindName (qd0 p.rel (I.f.post p qfn) I.e.kind hk hz fun s₂ p₂ f₂=>?_)))))))
  exact qad ⟨ρ₁,p.fr.trans p₂,f₂,rfl⟩
end
end Mine
end
noncomputable section
namespace Mine
open PySem PySem.Calls PyProof.Rows PySem.W
open Sem (wp)
theorem qdh {x:Str} {y:String} (h:nm x=some y):x=Str.ofString y:=by
 unfold nm at h;revert h;refine qe9 (fun q h=>?_) fun _ h=>?_
 ·refine qct h ?_;exact q.symm
 ·exact qa3 h
set_option tactic.hygienic true in
theorem qj3 {α β:Type} {f:α→Option β} {R:α→β→Prop}: ∀{xs:List α} {ys:List β},(∀x∈xs,∀y,f x=some y→R x y)→qjr f xs=some ys→All2 R xs ys
 | [],_,_,h=>by cases h;exact .nil
 |x::xs,ys,k,h=>by
  unfold qjr at h;split at h
  ·next y ys' h1 h2=>
   refine qct h ?_
   exact .cons (k x (.head _) y h1) (qj3 (fun z hz=>k z (.tail _ hz)) h2)
  ·exact qa3 h
set_option tactic.hygienic true in
theorem qlb {α β:Type} {f:α→Option β} {R:β→α→Prop} {xs:List α} {ys:List β} (k: ∀x∈xs,∀y,f x=some y→R y x) (h:qjr f xs=some ys):All2 R ys xs:=by
 induction xs generalizing ys with
 |nil=>refine qct h ?_;exact .nil
 |cons x xs ih=>
  unfold qjr at h;split at h
  ·next y ys' h1 h2=>
   refine qct h ?_
   exact .cons (k x (.head _) y h1) (ih (fun z hz=>k z (.tail _ hz)) h2)
  ·exact qa3 h
theorem qah {α β:Type} {o:Option α} {f:α→β} {y:β} (h:o.map f=some y): ∃x,o=some x∧f x=y:=Option.map_eq_some_iff.mp h
theorem qi7 {x:Str} (h:ql9 x=true):(x==("__debug__" :Str))=false∧(x==("__classdict__" :Str))=false:=by
 unfold ql9 at h;simp only [Bool.and_eq_true,Bool.not_eq_true']at h;exact h
theorem qvm {sc isc:Scope} {x:String} (h:csOk sc isc (Str.ofString x)=true):CS sc isc x:=by
 unfold csOk at h;simp only [Bool.and_eq_true,decide_eq_true_eq,List.all_eq_true,Bool.not_eq_true',Bool.or_eq_true,beq_iff_eq,beq_eq_false_iff_ne]at h;refine qa1 h fun z0_0 h7=>?_;refine qa1 z0_0 fun z74_0 h6=>?_;refine qa1 z74_0 fun z78_0 h5=>?_;obtain⟨⟨⟨h1,h2⟩,h3⟩,h4⟩:=z78_0
 exact {
  kind:=h1,nd:=h2,tgt:=h4,nocell:=h5
  loc:=fun p hp e=>(h3 p hp).elim (fun q=>q.elim (fun z=>absurd e z) .inl) .inr
  free:=fun p hp e=>(h6 p hp).elim (fun q=>absurd e q) id
  x0:=fun q=>h7 (by rw [q])}
theorem qvn {b:Bool} (h:(!b)=true):b=false:=by cases b<;>first|rfl|cases h
theorem bnd {α β:Type} {o:Option α} {f:α→Option β} {r:β} (h:o.bind f=some r): ∃x,o=some x∧f x=some r:=Option.bind_eq_some_iff.mp h
theorem qc0 {α:Type} {l:List α} {a:α} (h:one? l=some a):l= [a]:=by
 cases l with
 |nil=>exact qa3 h
 |cons b r=>cases r with
  |nil=>refine qct h ?_;rfl
  |cons _ _=>exact qa3 h
theorem qfu {α:Type} {l:List α} {p:α×α} (h:two? l=some p):l= [p.1,p.2]:=by
 cases l with
 |nil=>exact qa3 h
 |cons b r=>
  refine qac (qah (show(one? r).map (fun c=>(b,c))=some p from h)) fun c h1 e1_2=>?_;subst e1_2
  rw [qc0 h1]
theorem qoo {k:String} {x:Option PySem.Expr} (h:qyw x=some k): ∃kd p,x=some (.Constant (.str (Str.ofString k)) kd p):=by
 cases x with
 |none=>exact qa3 h
 |some e=>cases e with
  |Constant c kd p=>cases c with
   |str s=>exact⟨kd,p,by rw [qdh (show nm s=some k from h)]⟩
   |_=>exact qa3 h
  |_=>exact qa3 h
theorem qop {e:PySem.Expr} (h:qhf e=true):constantsAlone 8 e=false:=by
 cases e with
 |Call _ _ _ _=>rfl
 |List _ _=>rfl
 |ListComp _ _ _ _=>rfl
 |Attribute _ _ _=>rfl
 |Subscript v i q=>cases v with
  |Name x p=>
   show((x==("__debug__" :Str))&&_)=false
   rw [qvn (show(!(x==("__debug__" :Str)))=true from h)];rfl
  |_=>exact absurd h Bool.false_ne_true
 |Name x p=>exact qvn (show(!(x==("__debug__" :Str)))=true from h)
 |_=>exact absurd h Bool.false_ne_true
theorem qqb {o:PySem.Expr} {x:Str} (h:qis o=false) (env:Env):attributeBase o x env (eval o env)=eval o env:=by
 cases o<;>first|rfl|cases h
theorem qhu {o:PySem.Expr} (h: ∀es k p,o≠ .Set es k p) (env:Env) (y:Value):foldedSetIterable o env y=pure y:=by
 cases o with
 |Set es k p=>exact absurd rfl (h es k p)
 |_=>rfl
theorem qi8 {e:PySem.Expr} {q:Option PySem.Expr×Option PySem.Expr×Option PySem.Expr} (h:sliceOf? e=some q): ∃p,e= .Slice q.1 q.2.1 q.2.2 p:=by
 cases e with
 |Slice a b c p=>refine qct h ?_;exact⟨p,rfl⟩
 |_=>exact qa3 h
theorem qi9 {e:PySem.Expr} (h:sliceOf? e=none) (a b c:Option PySem.Expr) (p:Pos):e≠ .Slice a b c p:=fun q=>by rw [q]at h;cases h
theorem qlc {e:PySem.Expr} {x:Str} (h:nameOf? e=some x): ∃p,e= .Name x p:=by
 cases e with
 |Name y p=>refine qct h ?_;exact⟨p,rfl⟩
 |_=>exact qa3 h
theorem qj4 {e:PySem.Expr} {es:List PySem.Expr} (h:tupOf? e=some es): ∃k p,e= .Tuple es k p:=by
 cases e with
 |Tuple y k p=>refine qct h ?_;exact⟨k,p,rfl⟩
 |_=>exact qa3 h
theorem qqc {e:PySem.Expr} {q:PySem.Expr×Str×Pos} (h:attrOf? e=some q):e= .Attribute q.1 q.2.1 q.2.2:=by
 cases e with
 |Attribute v x p=>refine qct h ?_;rfl
 |_=>exact qa3 h
theorem qj5 {sc:Scope} {e:PySem.Expr} {g:String} (h:qnu sc e=some g) {GG:Prop} (kk: ∀p,e= .Name (Str.ofString g) p→sc.names.lookup (Str.ofString g)=some .globalImplicit→GG):GG:=by
 cases e with
 |Name x p=>
  have h:(if qta sc x then nm x else none)=some g:=h
  refine qdu h fun q h=>?_
  obtain rfl:=qdh h
  exact kk p rfl (eq_of_beq q)
 |_=>exact qa3 h
theorem qld {sc:Scope} {g:String} {e:PySem.Expr} {as:List PySem.Expr} (h:qm9 sc g e=some as): ∃np p,e= .Call (.Name (Str.ofString g) np) as [] p∧sc.names.lookup (Str.ofString g)=some .globalImplicit:=by
 cases e with
 |Call f args kw p=>
  have h:(if kw.isEmpty=true∧qnu sc f=some g then some args else none)=some as:=h
  refine qdu h fun q h=>?_
  refine qct h ?_
  refine qj5 q.2 fun np e2_1 hk=>?_;subst e2_1
  obtain rfl:=List.isEmpty_iff.mp q.1
  exact⟨np,p,rfl,hk⟩
 |_=>exact qa3 h
theorem qfv {sc:Scope} {g:String} {e a:PySem.Expr} (h:qhg sc g e=some a): ∃np p,e= .Call (.Name (Str.ofString g) np) [a] [] p∧sc.names.lookup (Str.ofString g)=some .globalImplicit:=by
 refine qac (bnd h) fun as h1 h2=>?_
 refine qcv (qld h1) fun np p e4_2 hk=>?_;subst e4_2
 rw [qc0 h2];exact⟨np,p,rfl,hk⟩
section
variable {w:World} {S:qc5 prog w} {P:Fn→Option Def} {C:Calls} {d:Nat} {sc:Scope}
theorem qqd {e:PySem.Expr} {m:ME} (hv:qb1 (S:=S) C d sc e m) (hi: ∀env whole,isTrue e env whole=(do let v ←whole;standAt e.pos;holding [v] (truthy v))) (h1: ∀es k p,e≠ .Set es k p) (h2: ∀x p,e≠ .Starred x p):OK S C d sc e m:=
 ⟨hv,qrw hv hi,h1,h2⟩
theorem qel (F:PF S P) {g:String} {v:Value} (hm:(g,v)∈([("len",.builtin "len"),("bytes",.type "bytes"),("bytearray",.type "bytearray"),("list",.type "list"),("dict",.type "dict"),("sorted",.builtin "sorted"),("range",.type "range"),
  ("reversed",.type "reversed"),("enumerate",.type "enumerate"),("isinstance",.builtin "isinstance"),("int",.type "int")]:List (String×Value))) (hd:(Str.ofString g==("__debug__" :Str))=false)
  (hk:sc.names.lookup (Str.ofString g)=some .globalImplicit):Blt F sc g v:=⟨hk,hd,(F.bname g v hm).1,(F.bname g v hm).2⟩
theorem qj6 (F:PF S P) (hk:sc.names.lookup (Str.ofString "range")=some .globalImplicit):Blt F sc "range" (.type "range"):=qel F (.tail _ (.tail _ (.tail _ (.tail _ (.tail _ (.tail _ (.head _))))))) (by decide) hk
theorem qnk (F:PF S P) (hk:sc.names.lookup (Str.ofString "list")=some .globalImplicit):Blt F sc "list" (.type "list"):=qel F (.tail _ (.tail _ (.tail _ (.head _)))) (by decide) hk
theorem qja (F:PF S P) (hk:sc.names.lookup (Str.ofString "reversed")=some .globalImplicit):Blt F sc "reversed" (.type "reversed"):=qel F (.tail _ (.tail _ (.tail _ (.tail _ (.tail _ (.tail _ (.tail _ (.head _)))))))) (by decide) hk
theorem qhv (F:PF S P) (hk:sc.names.lookup (Str.ofString "enumerate")=some .globalImplicit):Blt F sc "enumerate" (.type "enumerate"):=qel F (.tail _ (.tail _ (.tail _ (.tail _ (.tail _ (.tail _ (.tail _ (.tail _ (.head _))))))))) (by decide) hk
theorem b_bi (F:PF S P) {g:String} {b:Bi} (hb:biOf? g=some b) (hk:sc.names.lookup (Str.ofString g)=some .globalImplicit):Blt F sc g (biF b)∧b≠ .isInt∧b≠ .listRange∧b≠ .listRev:=by
 unfold biOf? at hb;revert hb;refine qe9 (fun e hb=>?_) fun _ hb=>?_
 ·refine qct hb ?_;subst e;exact⟨qel F (.head _) (by decide) hk,⟨nofun,nofun,nofun⟩⟩
 revert hb;refine qe9 (fun e hb=>?_) fun _ hb=>?_
 ·refine qct hb ?_;subst e;exact⟨qel F (.tail _ (.head _)) (by decide) hk,⟨nofun,nofun,nofun⟩⟩
 revert hb;refine qe9 (fun e hb=>?_) fun _ hb=>?_
 ·refine qct hb ?_;subst e;exact⟨qel F (.tail _ (.tail _ (.head _))) (by decide) hk,⟨nofun,nofun,nofun⟩⟩
 revert hb;refine qe9 (fun e hb=>?_) fun _ hb=>?_
 ·refine qct hb ?_;subst e;exact⟨qnk F hk,⟨nofun,nofun,nofun⟩⟩
 revert hb;refine qe9 (fun e hb=>?_) fun _ hb=>?_
 ·refine qct hb ?_;subst e;exact⟨qel F (.tail _ (.tail _ (.tail _ (.tail _ (.head _))))) (by decide) hk,⟨nofun,nofun,nofun⟩⟩
 revert hb;refine qe9 (fun e hb=>?_) fun _ hb=>?_
 ·refine qct hb ?_;subst e;exact⟨qel F (.tail _ (.tail _ (.tail _ (.tail _ (.tail _ (.head _)))))) (by decide) hk,⟨nofun,nofun,nofun⟩⟩
 ·exact qa3 hb
theorem qr9 {g:String} {c:Cls} (hc:clsOf? g=some c):g=qdv c:=by
 unfold clsOf? at hc;revert hc;refine qe9 (fun e hc=>?_) fun _ hc=>?_
 ·refine qct hc ?_;exact e
 revert hc;refine qe9 (fun e hc=>?_) fun _ hc=>?_
 ·refine qct hc ?_;exact e
 revert hc;refine qe9 (fun e hc=>?_) fun _ hc=>?_
 ·refine qct hc ?_;exact e
 ·exact qa3 hc
section
variable {r:RecE} (ih: ∀{sc:Scope} {e:PySem.Expr} {m:ME},r sc e=some m→OK S C d sc e m) {m:ME} {p:Pos}
theorem ihs (ih: ∀{sc:Scope} {e:PySem.Expr} {m:ME},r sc e=some m→OK S C d sc e m) {es:List PySem.Expr} {ms:List ME} (h:qjr (r sc) es=some ms):All2 (OK S C d sc) es ms:=qj3 (fun x _ y hy=>ih hy) h
theorem qvo {c:PySem.Const} {k:Nat} (h:qtb c=some m):qb1 (S:=S) C d sc (.Constant c k p) m:=by
 cases c with
 |int i=>refine qct h ?_;exact ev_int
 |none=>refine qct h ?_;exact qus
 |bool b=>refine qct h ?_;exact qut
 |str s=>
  refine qac (qah (show(nm s).map ME.str=some m from h)) fun y h1 e5_2=>?_;subst e5_2
  obtain rfl:=qdh h1
  exact ev_str
 |_=>exact qa3 h
theorem o_name {x:Str} (h:qt7 sc x=some m):qb1 (S:=S) C d sc (.Name x p) m:=by
 unfold qt7 at h;refine qdu h fun q h=>?_
 refine qac (qah h) fun y h1 e6_2=>?_;subst e6_2
 obtain rfl:=qdh h1
 rw [Bool.and_eq_true]at q;exact quu q.1 (qi7 q.2).1 (qi7 q.2).2
include ih
theorem o_attr (F:PF S P) {v:PySem.Expr} {x:Str} (h:qt8 r sc v x=some m):qb1 (S:=S) C d sc (.Attribute v x p) m:=by
 unfold qt8 at h;split at h
 ·exact qa3 h
 ·next q=>
  refine qac (bnd h) fun a h1 h=>?_
  refine qac (qah h) fun y h2 e8_2=>?_;subst e8_2
  obtain rfl:=qdh h2
  exact quv F (ih h1).ev (qqb (Bool.eq_false_iff.mpr q))
theorem o_sub {v i:PySem.Expr} (h:cSub r sc v i=some m):qb1 (S:=S) C d sc (.Subscript v i p) m:=by
 unfold cSub at h;cases hs:sliceOf? i with
 |none=>
  rw [hs]at h;refine qac (bnd h) fun a h1 h=>?_
  refine qac (qah h) fun y h2 e10_2=>?_;subst e10_2
  exact quw (ih h1).ev (ih h2).ev
 |some q=>
  rw [hs]at h;refine qaj (qi8 hs) fun p2 e11_1=>?_;subst e11_1
  obtain⟨lo,hi,st⟩:=q
  have h:qtc r sc v lo hi st=some m:=h
  cases st with
  |some _=>exact qa3 h
  |none=>cases lo with
   |none=>cases hi with
    |none=>exact qa3 h
    |some hi=>
     refine qac (bnd h) fun a h1 h=>?_
     refine qac (qah h) fun y h2 e14_2=>?_;subst e14_2
     exact qn4 (ih h1) (ih h2)
   |some lo=>cases hi with
    |some _=>exact qa3 h
    |none=>
     refine qac (bnd h) fun a h1 h=>?_
     refine qac (qah h) fun y h2 e16_2=>?_;subst e16_2
     exact qk2 (ih h1) (ih h2)
theorem o_bin {a b:PySem.Expr} {op:Operator} (h:cBin r sc a op b=some m):qb1 (S:=S) C d sc (.BinOp a op b p) m:=by
 refine qac (bnd h) fun x h1 h=>?_
 refine qac (bnd h) fun o h2 h=>?_
 refine qac (qah h) fun y h3 e19_2=>?_;subst e19_2
 exact ev_bin h2 (ih h1).ev (ih h3).ev
theorem o_un {op:UnaryOp} {a:PySem.Expr} (h:cUn r sc op a=some m):OK S C d sc (.UnaryOp op a p) m:=by
 cases op with
 |USub=>
  refine qac (qah (show(r sc a).map ME.neg=some m from h)) fun y h1 e20_2=>?_;subst e20_2
  exact qqd (ev_neg (ih h1).ev) (fun _ _=>rfl) (fun _ _ _ q=>nomatch q) (fun _ _ q=>nomatch q)
 |Not=>
  refine qac (qah (show(r sc a).map ME.not=some m from h)) fun y h1 e21_2=>?_;subst e21_2
  exact⟨ev_not (ih h1).ev,ts_not (ih h1).ts,(fun _ _ _ q=>nomatch q),(fun _ _ q=>nomatch q)⟩
 |_=>exact qa3 h
theorem o_cmp1 {a:PySem.Expr} {ops:List CmpOp} {bs:List PySem.Expr} (h:qt9 r sc a ops bs=some m):OK S C d sc (.Compare a ops bs p) m:=by
 refine qac (bnd h) fun o h1 h=>?_
 refine qac (bnd h) fun b h2 h=>?_
 refine qac (bnd h) fun x h3 h=>?_
 refine qac (qah h) fun y h4 e25_2=>?_;subst e25_2
 rw [qc0 h1,qc0 h2];exact⟨ev_cmp (ih h4).noSet (ih h3).ev (ih h4).ev,ts_cmp (ih h4).noSet (ih h3).ev (ih h4).ev,(fun _ _ _ q=>nomatch q),(fun _ _ q=>nomatch q)⟩
theorem o_cmp2 {a:PySem.Expr} {ops:List CmpOp} {bs:List PySem.Expr} (h:qua r sc a ops bs=some m):OK S C d sc (.Compare a ops bs p) m:=by
 refine qac (bnd h) fun o h1 h=>?_
 refine qac (bnd h) fun b h2 h=>?_
 refine qac (bnd h) fun x h3 h=>?_
 refine qac (bnd h) fun y h4 h=>?_
 refine qac (qah h) fun z h5 e30_2=>?_;subst e30_2
 rw [qfu h1,qfu h2];exact⟨qrx (ih h3) (ih h4) (ih h5),qry (ih h3) (ih h4) (ih h5),(fun _ _ _ q=>nomatch q),(fun _ _ q=>nomatch q)⟩
theorem o_bool {op:BoolOp} {es:List PySem.Expr} (h:qyx r sc op es=some m):OK S C d sc (.BoolOp op es p) m:=by
 refine qac (bnd h) fun ms h1 h2=>?_
 cases op with
 |And=>exact⟨qtk (ihs ih h1) h2,qtl (ihs ih h1) h2,(fun _ _ _ q=>nomatch q),(fun _ _ q=>nomatch q)⟩
 |Or=>exact⟨ev_or (ihs ih h1) h2,ts_or (ihs ih h1) h2,(fun _ _ _ q=>nomatch q),(fun _ _ q=>nomatch q)⟩
theorem o_if {c a b:PySem.Expr} (h:cIf r sc c a b=some m):OK S C d sc (.IfExp c a b p) m:=by
 refine qac (bnd h) fun x h1 h=>?_
 refine qac (bnd h) fun y h2 h=>?_
 refine qac (qah h) fun z h3 e34_2=>?_;subst e34_2
 exact⟨ev_ite (ih h1) (ih h2) (ih h3),ts_ite (ih h1) (ih h2) (ih h3),(fun _ _ _ q=>nomatch q),(fun _ _ q=>nomatch q)⟩
theorem o_tup {es:List PySem.Expr} {k:Nat} (h:cTup r sc es=some m):qb1 (S:=S) C d sc (.Tuple es k p) m:=by
 unfold cTup at h;refine qdu h fun hl h=>?_
 refine qac (qah h) fun ms h1 e35_2=>?_;subst e35_2
 exact qtm ((ihs ih h1).length ▸ hl) (ihs ih h1)
theorem o_lst {es:List PySem.Expr} (h:cLst r sc es=some m):qb1 (S:=S) C d sc (.List es p) m:=by
 unfold cLst at h;refine qdu h fun hl h=>?_
 refine qac (qah h) fun ms h1 e36_2=>?_;subst e36_2
 exact ev_lst ((ihs ih h1).length ▸ hl) (ihs ih h1)
theorem o_dct {keys:List (Option PySem.Expr)} {es:List PySem.Expr} (h:cDct r sc keys es=some m):qb1 (S:=S) C d sc (.Dict keys es p) m:=by
 refine qac (bnd h) fun ks h1 h=>?_
 refine qac (bnd h) fun ms h2 h=>?_
 refine qdu h fun hl h=>?_
 refine qct h ?_
 have t:=ihs ih h2
 have hk:All2 (fun k (x:Option PySem.Expr)=> ∃kd p,x=some (.Constant (.str (Str.ofString k)) kd p)) ks keys:=qlb (fun x _ y hy=>qoo hy) h1
 by_cases h0:ks= []
 ·subst h0;cases hk
  have e0:ms= []:=List.eq_nil_of_length_eq_zero hl.1.symm
  subst e0;cases t
  exact qux
 ·exact ev_dct hk t (hl.1.trans t.length.symm) hl.2.1 hl.2.2 h0
theorem o_src (F:PF S P) {it:PySem.Expr} {q:Nat×List ME} (h:cSrc r sc it=some q):qla S C d sc it q.1 q.2:=by
 unfold cSrc at h;cases ha:qm9 sc "range" it with
 |none=>
  rw [ha]at h;refine qac (qah h) fun a h1 e39_2=>?_;subst e39_2
  exact qr8 (qhu (ih h1).noSet) (ih h1).ev
 |some as=>
  rw [ha]at h;refine qcv (qld ha) fun np p2 e40_2 hk=>?_;subst e40_2
  dsimp only at h;split at h
  ·refine qac (bnd h) fun a h1 h=>?_
   refine qac (qah h) fun x h2 e42_2=>?_;subst e42_2
   rw [qc0 h1];exact qok (qj6 F hk) (ih h2)
  ·refine qac (bnd h) fun a h1 h=>?_
   refine qac (bnd h) fun x h2 h=>?_
   refine qac (qah h) fun y h3 e45_2=>?_;subst e45_2
   rw [qfu h1];exact qol (qj6 F hk) (ih h2) (ih h3)
theorem o_cond {isc:Scope} {ifs:List PySem.Expr} {cond:Option ME} (h:qub r isc ifs=some cond):(ifs= []∧cond=none)∨ ∃c mc,ifs= [c]∧cond=some mc∧OK S C d isc c mc:=by
 unfold qub at h;revert h;refine qe9 (fun q h=>?_) fun _ h=>?_
 ·refine qct h ?_;exact .inl ⟨List.isEmpty_iff.mp q,rfl⟩
 ·refine qac (bnd h) fun c h1 h=>?_
  refine qac (qah h) fun mc h2 e47_2=>?_;subst e47_2
  exact .inr ⟨c,mc,qc0 h1,rfl,ih h2⟩
theorem qjb (F:PF S P) {elt:PySem.Expr} {gs:List Comprehension} {isc:Scope} (h:quc r sc elt gs isc=some m) {GG:Prop} (kk: ∀it y xp ifs melt k its mcond,gs= [⟨.Name (Str.ofString y) xp,it,ifs,0⟩]→m= .comp melt y k its mcond→CS sc isc y→qla S C d sc it k its→OK S C d isc elt melt→((ifs= []∧mcond=none)∨ ∃c mc,ifs= [c]∧mcond=some mc∧OK S C d isc c mc)→GG):GG:=by
 refine qac (bnd h) fun g h1 h=>?_
 refine qdu h fun h0 h=>?_
 refine qac (bnd h) fun x h2 h=>?_
 revert h;refine qe9 (fun hcs h=>?_) fun _ h=>?_
 ·
  refine qac (bnd h) fun s h3 h=>?_
  refine qac (bnd h) fun cond h4 h=>?_
  refine qac (bnd h) fun e h5 h=>?_
  refine qac (qah h) fun y h6 e53_2=>?_;subst e53_2
  obtain rfl:=qdh h6
  refine qaj (qlc h2) fun xp h7=>?_
  obtain⟨tg,it,ifs,a⟩:=g
  dsimp only at h0 h7 h3 h4;subst h0 h7;exact kk it y xp ifs e s.1 s.2 cond (qc0 h1) rfl (qvm hcs) (o_src ih F h3) (ih h5) (o_cond ih h4)
 ·exact qa3 h
theorem o_meth (F:PF S P) (hC:qc7 F C d) {v:PySem.Expr} {x:Str} {ap:Pos} {args:List PySem.Expr} (h:qud r sc v x ap args p=some m):qb1 (S:=S) C d sc (.Call (.Attribute v x ap) args [] p) m:=by
 unfold qud at h;split at h
 ·exact qa3 h
 ·next q=>
  refine qdu h fun hl h=>?_
  refine qac (bnd h) fun mo h1 h=>?_
  refine qac (bnd h) fun y h2 h=>?_
  refine qac (qah h) fun as h3 e58_2=>?_;subst e58_2
  obtain rfl:=qdh h2
  exact qu4 F hC (ih h1).ev (qqb (Bool.eq_false_iff.mpr q)) (by rw [hl.2];exact beq_self_eq_true _) hl.1 (ihs ih h3)
theorem o_glob (F:PF S P) (hC:qc7 F C d) {g:String} {args:List PySem.Expr} {np:Pos} (hk:sc.names.lookup (Str.ofString g)=some .globalImplicit) (h:qrq r sc g args=some m):qb1 (S:=S) C d sc (.Call (.Name (Str.ofString g) np) args [] p) m:=by
 unfold qrq at h;revert h;refine qe9 (fun e h=>?_) fun _ h=>?_
 ·
  subst e;refine qac (bnd h) fun q h1 h=>?_
  rw [qfu h1];refine qdu h fun hi h=>?_
  refine qac (qah h) fun ma h2 e60_2=>?_;subst e60_2
  refine qj5 hi fun np2 e2 hk2=>?_
  rw [e2];exact qr3 (qel F (.tail _ (.tail _ (.tail _ (.tail _ (.tail _ (.tail _ (.tail _ (.tail _ (.tail _ (.head _)))))))))) (by decide) hk) (qel F (.tail _ (.tail _ (.tail _ (.tail _ (.tail _ (.tail _ (.tail _ (.tail _ (.tail _ (.tail _ (.head _))))))))))) (by decide) hk2) (ih h2)
 revert h;refine qe9 (fun e h=>?_) fun _ h=>?_
 ·
  subst e;refine qac (bnd h) fun a h1 h=>?_
  rw [qc0 h1];cases h2:qhg sc "range" a with
  |some b=>
   rw [h2]at h;refine qcv (qfv h2) fun np2 p2 e63_2 hk2=>?_;subst e63_2
   refine qac (qah h) fun ma h3 e64_2=>?_;subst e64_2
   exact qk3 (qnk F hk) (qj6 F hk2) (ih h3)
  |none=>
   rw [h2]at h;dsimp only at h;cases h3:qhg sc "reversed" a with
   |some b=>
    rw [h3]at h;refine qcv (qfv h3) fun np2 p2 e65_2 hk2=>?_;subst e65_2
    refine qac (qah h) fun ma h4 e66_2=>?_;subst e66_2
    exact qn8 (qnk F hk) (qja F hk2) (ih h4)
   |none=>
    rw [h3]at h;refine qac (qah h) fun ma h4 e67_2=>?_;subst e67_2
    exact ev_bi (bi:= .list) (qnk F hk) ⟨nofun,nofun,nofun⟩ (.cons (ih h4) .nil)
 refine qac (bnd h) fun as h1 h=>?_
 revert h;refine qe9 (fun hg h=>?_) fun _ h=>?_
 ·
  refine qct h ?_
  refine quz F hC hg hk ?_ (ihs ih h1)
  have:funNames.all (fun g=> !(Str.ofString g==("__debug__" :Str)))=true:=by decide
  exact qvn (List.all_eq_true.mp this _ hg)
 cases hc:clsOf? g with
 |some c=>
  rw [hc]at h;refine qct h ?_
  have e:=qr9 hc
  subst e;exact ev_new F hC hk (by cases c<;>decide) (ihs ih h1)
 |none=>
  rw [hc]at h;refine qac (qah h) fun b hb e69_2=>?_;subst e69_2
  refine qa1 (b_bi F hb hk) fun B q=>?_
  exact ev_bi B q (ihs ih h1)
theorem o_call (F:PF S P) (hC:qc7 F C d) {f:PySem.Expr} {args:List PySem.Expr} {kw:List Keyword} (h:que r sc f args kw.isEmpty p=some m):qb1 (S:=S) C d sc (.Call f args kw p) m:=by
 unfold que at h;refine qdu h fun q h=>?_
 obtain rfl:=List.isEmpty_iff.mp q
 cases ha:attrOf? f with
 |some q=>
  rw [ha]at h;obtain rfl:=qqc ha
  exact o_meth ih F hC h
 |none=>
  rw [ha]at h;refine qac (bnd (show(qnu sc f).bind (fun g=>qrq r sc g args)=some m from h)) fun g h1 h2=>?_
  refine qj5 h1 fun np e72_1 hk=>?_;subst e72_1
  exact o_glob ih F hC hk h2
theorem o_expr (F:PF S P) (hC:qc7 F C d): ∀(e:PySem.Expr),cE1 r sc e=some m→OK S C d sc e m:=fun e h=>by
 cases e with
 |Constant c k p=>exact qqd (qvo h) (fun _ _=>rfl) (fun _ _ _ q=>nomatch q) (fun _ _ q=>nomatch q)
 |Name x p=>exact qqd (o_name h) (fun _ _=>rfl) (fun _ _ _ q=>nomatch q) (fun _ _ q=>nomatch q)
 |Attribute v x p=>exact qqd (o_attr ih F h) (fun _ _=>rfl) (fun _ _ _ q=>nomatch q) (fun _ _ q=>nomatch q)
 |Subscript v i p=>exact qqd (o_sub ih h) (fun _ _=>rfl) (fun _ _ _ q=>nomatch q) (fun _ _ q=>nomatch q)
 |BinOp a op b p=>exact qqd (o_bin ih h) (fun _ _=>rfl) (fun _ _ _ q=>nomatch q) (fun _ _ q=>nomatch q)
 |UnaryOp op a p=>exact o_un ih h
 |Compare a ops bs p=>
  have h:(if ops.length=1 then qt9 r sc a ops bs else qua r sc a ops bs)=some m:=h
  split at h
  ·exact o_cmp1 ih h
  ·exact o_cmp2 ih h
 |BoolOp op es p=>exact o_bool ih h
 |IfExp c a b p=>exact o_if ih h
 |Tuple es k p=>exact qqd (o_tup ih h) (fun _ _=>rfl) (fun _ _ _ q=>nomatch q) (fun _ _ q=>nomatch q)
 |List es p=>exact qqd (o_lst ih h) (fun _ _=>rfl) (fun _ _ _ q=>nomatch q) (fun _ _ q=>nomatch q)
 |Dict ks es p=>exact qqd (o_dct ih h) (fun _ _=>rfl) (fun _ _ _ q=>nomatch q) (fun _ _ q=>nomatch q)
 |ListComp elt gs isc p=>
  refine qjb ih F h fun it y xp ifs melt k its mcond ee8 ee9 cs hsrc hel hcd=>?_
  subst ee8;subst ee9;exact qqd (qqa cs hsrc hel hcd) (fun _ _=>rfl) (fun _ _ _ q=>nomatch q) (fun _ _ q=>nomatch q)
 |Call f args kw p=>exact qqd (o_call ih F hC h) (fun _ _=>rfl) (fun _ _ _ q=>nomatch q) (fun _ _ q=>nomatch q)
 |_=>exact qa3 h
end
theorem qsa (F:PF S P) (hC:qc7 F C d): ∀(n:Nat) {sc:Scope} {e:PySem.Expr} {m:ME},cE sc n e=some m→OK S C d sc e m
 |0,_,_,_,h=>nomatch h
 |n+1,_,_,_,h=>o_expr (qsa F hC n) F hC _ h
end
end Mine
end
noncomputable section
namespace Mine
open PySem PySem.Calls PyProof.Rows PySem.W
open Sem (wp)
theorem qcy {sc:Scope} {t:PySem.Expr} {x:String} (h:qig sc t=some x): ∃p,t= .Name (Str.ofString x) p∧qbi sc (Str.ofString x)=true:=by
 refine qac (bnd h) fun y h1 h2=>?_
 refine qaj (qlc h1) fun p e1_1=>?_;subst e1_1
 refine qdu h2 fun q h2=>?_
 obtain rfl:=qdh h2
 exact⟨p,rfl,q⟩
theorem qfc {sc:Scope} {ts:List PySem.Expr} {xs:List String} (h:qjr (qig sc) ts=some xs):All2 (fun x (t:PySem.Expr)=> ∃p,t= .Name (Str.ofString x) p) xs ts:=
 qlb (fun t _ x hx=>(qcy hx).imp fun _ q=>q.1) h
set_option tactic.hygienic true in
theorem qdn {sc:Scope}: ∀{ts:List PySem.Expr} {xs:List String},qjr (qig sc) ts=some xs→ ∀x∈xs,qbi sc (Str.ofString x)=true
 | [],_,h,x,hx=>by cases h;cases hx
 |t::ts,_,h,x,hx=>by
  unfold qjr at h;split at h
  ·next y ys h1 h2=>
   cases h
   cases hx with
   |head=>exact(qcy h1).elim fun _ q=>q.2
   |tail _ hx=>exact qdn h2 x hx
  ·cases h
theorem qoq {sc:Scope} {t:PySem.Expr} {q:String×String} (h:quf sc t=some q): ∃p3 p4 k p5,t= .Tuple [.Name (Str.ofString q.1) p3,.Name (Str.ofString q.2) p4] k p5∧qbi sc (Str.ofString q.1)=true∧qbi sc (Str.ofString q.2)=true:=by
 refine qac (bnd h) fun ts h1 h=>?_
 refine qac (bnd h) fun p h2 h=>?_
 refine qac (bnd h) fun x h3 h=>?_
 refine qac (bnd h) fun y h4 h9=>?_
 refine qic (qj4 h1) fun k p5 e6_2=>?_;subst e6_2
 refine qac (qcy h3) fun p3 e1 l1=>?_
 refine qac (qcy h4) fun p4 e2 l2=>?_
 split at h9
 ·refine qct h9 ?_
  rw [qfu h2,e1,e2];exact⟨p3,p4,k,p5,rfl,l1,l2⟩
 ·exact qa3 h9
noncomputable def qqe:PySem.Expr→Bool
 | .ListComp .. | .SetComp .. | .DictComp .. =>true
 |_=>false
theorem qsb {e:PySem.Expr} (h:qqe e=false) (env:Env) (t:Option PySem.Expr) (ln:Nat):swapsWith e t ln env=pure false:=by
 cases e<;>first|rfl|cases h
theorem qmr {ts:List PySem.Expr} {k:Nat} {np:Pos} {e:PySem.Expr} (ln:Nat) (env:Env):swapsWithSole [.Tuple ts k np] e ln env=pure false:=by cases e<;>rfl
theorem qor {ts:List PySem.Expr} {k:Nat} {np:Pos} {e:PySem.Expr} (h:tupOf? e=none) (env:Env):swappedStores [.Tuple ts k np] e env=pure none:=by
 cases e<;>first|rfl|cases h
section
variable {w:World} {S:qc5 prog w} {P:Fn→Option Def} {C:Calls} {d:Nat} {sc:Scope}
theorem qsc {e:PySem.Expr} {n:Nat} {P:PySem.Expr→Prop} (hc:qqe e=true) (h:cE sc (n+1) e=some m) (k: ∀a b c d,cE sc (n+1) (.ListComp a b c d)=some m→P (.ListComp a b c d)):P e:=by
 cases e<;>first|exact k _ _ _ _ h|exact absurd hc Bool.false_ne_true|exact qa3 h
theorem qsd {e:PySem.Expr} {P:PySem.Expr→Prop} (h:qis e=true) (k: ∀a b c d,P (.Call a b c d)):P e:=by
 cases e<;>first|exact k _ _ _ _|exact absurd h Bool.false_ne_true
theorem cAsg_e {f:PySem.Expr→Option ME} {t v:PySem.Expr} {P:PySem.Expr→Prop} (h:cAsg sc f t v=some m) (k1: ∀x p,P (.Name x p)) (k2: ∀ts k p,P (.Tuple ts k p)) (k3: ∀o x p,P (.Attribute o x p)) (k4: ∀o i p,P (.Subscript o i p)):P t:=by
 cases t<;>first|exact k1 _ _|exact k2 _ _ _|exact k3 _ _ _|exact k4 _ _ _|exact qa3 h
theorem qos (F:PF S P) (hC:qc7 F C d) {n:Nat} {e:PySem.Expr} {m:ME} {x:String} {np pos:Pos} (hx:qbi sc (Str.ofString x)=true) (h:cE sc n e=some m):qey S C d sc (.Assign [.Name (Str.ofString x) np] e pos) (.asgVar x m):=by
 cases hc:qqe e with
 |false=>exact qoa hx (fun env t=>qsb hc env _ _) (qsa F hC _ h).ev
 |true=>
  cases n with
  |zero=>exact qa3 h
  |succ n=>
   refine qsc (P:=fun e=>qey S C d sc (.Assign [.Name (Str.ofString x) np] e pos) (.asgVar x m)) hc h fun elt gs isc p h=>?_
   refine qjb (qsa F hC n) F (show quc (cEr n) sc elt gs isc=some m from h) fun it y xp ifs melt k its mcond ee8 ee9 cs hsrc hel hcd=>?_
   subst ee8;subst ee9;exact qon hx cs hsrc hel hcd
theorem qse {es:List PySem.Expr} (h:(es.all qge||es.any qhf)=true):es.all qge=true∨ ∃e∈es,constantsAlone 8 e=false:=by
 rw [Bool.or_eq_true]at h;refine h.imp id fun q=>?_
 refine qac (List.any_eq_true.mp q) fun e he q=>?_
 exact⟨e,he,qop q⟩
section
variable {e:PySem.Expr→Option ME} {b:List PySem.Stmt→Option (List MS)} (ie: ∀{x:PySem.Expr} {m:ME},e x=some m→OK S C d sc x m) (ib: ∀{s:List PySem.Stmt} {ms:List MS},b s=some ms→qfb S C d sc s ms) {m:MS} {p np:Pos}
include ie
theorem s_tup {ts:List PySem.Expr} {k:Nat} {v:PySem.Expr} (h:qpc sc e ts v=some m):qey S C d sc (.Assign [.Tuple ts k np] v p) m:=by
 refine qac (bnd h) fun xs h1 h=>?_
 cases ht:tupOf? v with
 |some es=>
  rw [ht]at h;refine qic (qj4 ht) fun k2 p2 e12_2=>?_;subst e12_2
  refine qac (bnd h) fun ms h2 h=>?_
  refine qdu h fun q h=>?_
  refine qct h ?_
  exact qp1 (qfc h1) (qdn h1) q.2.1 (qse q.2.2.2) q.2.2.1 (qj3 (fun x _ y hy=>ie hy) h2)
 |none=>
  rw [ht]at h;refine qac (qah h) fun m' h2 e14_2=>?_;subst e14_2
  exact qp0 (qfc h1) (qdn h1) (fun env ln=>qmr ln env) (qor ht) (ie h2).ev
theorem s_sub {o i v:PySem.Expr} (h:qma e o i v=some m):qey S C d sc (.Assign [.Subscript o i np] v p) m:=by
 unfold qma at h;cases hs:sliceOf? i with
 |none=>
  rw [hs]at h;refine qac (bnd h) fun a h1 h=>?_
  refine qac (bnd h) fun y h2 h=>?_
  refine qac (qah h) fun z h3 e17_2=>?_;subst e17_2
  exact qoc (fun a b p=>qi9 hs a b none p) (ie h1).ev (ie h2).ev (ie h3).ev
 |some q=>
  rw [hs]at h;refine qaj (qi8 hs) fun p2 e18_1=>?_;subst e18_1
  obtain⟨lo,hi,st⟩:=q
  have h:qtd e o lo hi st v=some m:=h
  cases st with
  |some _=>exact qa3 h
  |none=>cases lo with
   |none=>cases hi with
    |some _=>exact qa3 h
    |none=>
     refine qac (bnd h) fun a h1 h=>?_
     refine qac (qah h) fun y h2 e21_2=>?_;subst e21_2
     exact qk5 (ie h1).ev (ie h2).ev
   |some lo=>cases hi with
    |none=>exact qa3 h
    |some hi=>
     refine qac (bnd h) fun a h1 h=>?_
     refine qac (bnd h) fun x h2 h=>?_
     refine qac (bnd h) fun y h3 h=>?_
     refine qac (qah h) fun z h4 e25_2=>?_;subst e25_2
     exact qk6 (ie h1).ev (ie h2).ev (ie h3).ev (ie h4).ev
theorem s_aug (F:PF S P) {t v:PySem.Expr} {op:Operator} (h:cAug e t op v=some m):qey S C d sc (.AugAssign t op v p) m:=by
 cases t with
 |Attribute o x q=>
  refine qac (bnd h) fun a h1 h=>?_
  refine qac (bnd h) fun y h2 h=>?_
  refine qac (bnd h) fun o' h3 h=>?_
  refine qac (qah h) fun z h4 e29_2=>?_;subst e29_2
  obtain rfl:=qdh h2
  exact qod F h3 (ie h1).ev (ie h4).ev
 |Subscript o i q=>
  have h:(if(sliceOf? i).isSome then none else(e o).bind fun m=>(e i).bind fun k=>(cOp op).bind fun q=>(e v).map fun u=>MS.augItem m k q u)=some m:=h
  split at h
  ·exact qa3 h
  ·next hs=>
   refine qac (bnd h) fun a h1 h=>?_
   refine qac (bnd h) fun k h2 h=>?_
   refine qac (bnd h) fun o' h3 h=>?_
   refine qac (qah h) fun z h4 e33_2=>?_;subst e33_2
   exact qof (fun a b p=>qi9 (by cases q:sliceOf? i with
    |none=>rfl
    |some _=>rw [q]at hs;exact absurd rfl hs) a b none p) h3 (ie h1).ev (ie h2).ev (ie h4).ev
 |_=>exact qa3 h
theorem s_del {t:PySem.Expr} (h:cDel e t=some m):qey S C d sc (.Delete [t] p) m:=by
 cases t with
 |Subscript o i q=>
  refine qac (bnd h) fun a h1 h=>?_
  refine qac (qah h) fun y h2 e35_2=>?_;subst e35_2
  exact st_del (ie h1).ev (ie h2).ev
 |_=>exact qa3 h
include ib
theorem s_for (F:PF S P) {t it:PySem.Expr} {body:List PySem.Stmt} (h:cFor sc e b t it body=some m):qey S C d sc (.For t it body [] p) m:=by
 unfold cFor at h;cases h1:qhg sc "range" it with
 |some a=>
  rw [h1]at h;refine qcv (qfv h1) fun n1 n2 e36_2 hk=>?_;subst e36_2
  refine qac (bnd h) fun x h2 h=>?_
  refine qac (bnd h) fun m' h3 h=>?_
  refine qac (qah h) fun s h4 e39_2=>?_;subst e39_2
  refine qac (qcy h2) fun q e40_1 hx=>?_;subst e40_1
  exact qmn (qj6 F hk) hx (ie h3) (ib h4)
 |none=>
  rw [h1]at h;dsimp only at h;cases h1:qhg sc "reversed" it with
  |some a=>
   rw [h1]at h;refine qcv (qfv h1) fun n1 n2 e41_2 hk=>?_;subst e41_2
   refine qac (bnd h) fun x h2 h=>?_
   refine qac (bnd h) fun m' h3 h=>?_
   refine qac (qah h) fun s h4 e44_2=>?_;subst e44_2
   refine qac (qcy h2) fun q e45_1 hx=>?_;subst e45_1
   exact qp5 (qja F hk) hx (ie h3) (ib h4)
  |none=>
   rw [h1]at h;dsimp only at h;cases h1:qhg sc "enumerate" it with
   |some a=>
    rw [h1]at h;refine qcv (qfv h1) fun n1 n2 e46_2 hk=>?_;subst e46_2
    refine qac (bnd h) fun m' h3 h=>?_
    cases h5:quf sc t with
    |some q=>
     rw [h5]at h;refine qac (qah h) fun s h4 e48_2=>?_;subst e48_2
     refine qye (qoq h5) fun p3 p4 k p5 e49_4 hx hy=>?_;subst e49_4
     exact qoi (qhv F hk) hx hy (ie h3) (ib h4)
    |none=>
     rw [h5]at h;refine qct h ?_
     exact qmo (qhv F hk) (ie h3)
   |none=>
    rw [h1]at h;dsimp only at h;cases h5:tupOf? t with
    |some ts=>
     rw [h5]at h;refine qic (qj4 h5) fun k p2 e50_2=>?_;subst e50_2
     refine qac (bnd h) fun xs h2 h=>?_
     refine qac (bnd h) fun m' h3 h=>?_
     refine qac (bnd h) fun s h4 h=>?_
     split at h
     ·refine qct h ?_
      exact qp4 (qfc h2) (qdn h2) (qhu (ie h3).noSet) (ie h3).ev (ib h4)
     ·exact qa3 h
    |none=>
     rw [h5]at h;refine qac (bnd h) fun x h2 h=>?_
     refine qac (bnd h) fun m' h3 h=>?_
     refine qac (qah h) fun s h4 e56_2=>?_;subst e56_2
     refine qac (qcy h2) fun q e57_1 hx=>?_;subst e57_1
     exact qve hx (qhu (ie h3).noSet) (ie h3).ev (ib h4)
end
theorem cS_ok (F:PF S P) (hC:qc7 F C d) {n:Nat} (ib: ∀{s:List PySem.Stmt} {ms:List MS},cSs sc n s=some ms→qfb S C d sc s ms) (st:PySem.Stmt) {m:MS} (h:cS1 sc (cE sc n) (cSs sc n) st=some m):qey S C d sc st m:=by
 have ie: ∀{x:PySem.Expr} {m:ME},cE sc n x=some m→OK S C d sc x m:=qsa F hC n
 cases st with
 |Assign ts v p=>
  refine qac (bnd h) fun t h1 h=>?_
  rw [qc0 h1];refine cAsg_e (P:=fun t=>cAsg sc (cE sc n) t v=some m→qey S C d sc (.Assign [t] v p) m) h ?_ ?_ ?_ ?_ h
  ·intro x np h;refine qac (bnd h) fun y h1 h=>?_
   refine qac (qah h) fun m' h2 e60_2=>?_;subst e60_2
   refine qdu h1 fun q h1=>?_
   rw [qdh h1]at q ⊢;exact qos F hC q h2
  ·exact fun ts k np h=>s_tup ie h
  ·intro o x np h;refine qac (bnd h) fun a h4 h=>?_
   refine qac (bnd h) fun y h2 h=>?_
   refine qac (qah h) fun z h3 e63_2=>?_;subst e63_2
   rw [qdh h2];exact qob F (ie h4).ev (ie h3).ev
  ·exact fun o i np h=>s_sub ie h
 |AugAssign t op v p=>exact s_aug ie F h
 |Expr v p=>
  have h:(if qis v then(cE sc n v).map MS.expr else none)=some m:=h
  refine qdu h fun q h=>?_
  refine qac (qah h) fun m' h1 e64_2=>?_;subst e64_2
  refine qsd (P:=fun v=>cE sc n v=some m'→qey S C d sc (.Expr v p) (.expr m')) q (fun f a k q2 h1=>?_) h1
  exact qu7 (ie h1).ev
 |If c x y p=>
  refine qac (bnd h) fun a h1 h=>?_
  refine qac (bnd h) fun q1 h2 h=>?_
  refine qac (qah h) fun q2 h3 e67_2=>?_;subst e67_2
  exact st_if (ie h1) (ib h2) (ib h3)
 |For t it body more p=>
  have h:(if more.isEmpty then cFor sc (cE sc n) (cSs sc n) t it body else none)=some m:=h
  refine qdu h fun q h=>?_
  obtain rfl:=List.isEmpty_iff.mp q
  exact s_for ie ib F h
 |Return v p=>cases v with
  |some v=>
   refine qac (qah (show(cE sc n v).map MS.ret=some m from h)) fun m' h1 e68_2=>?_;subst e68_2
   exact st_ret (ie h1).ev
  |none=>refine qct h ?_;exact qn9
 |Delete ts p=>
  refine qac (bnd h) fun t h1 h=>?_
  rw [qc0 h1];exact s_del ie h
 |Raise _ _ _=>
  refine qct h ?_
  intro A env l ρ σ s fl l' σ' I h;exact qa3 h
 |Try body hs more fin p=>
  have h:(if more.isEmpty=true∧fin.isEmpty=true then(cSs sc n body).map MS.tryB else none)=some m:=h
  refine qdu h fun q h=>?_
  refine qac (qah h) fun m' h1 e70_2=>?_;subst e70_2
  obtain rfl:=List.isEmpty_iff.mp q.1
  obtain rfl:=List.isEmpty_iff.mp q.2
  exact st_try (ib h1)
 |_=>exact qa3 h
theorem qqf (F:PF S P) (hC:qc7 F C d): ∀(n:Nat) {sc:Scope} {st:List PySem.Stmt} {m:List MS},cSs sc n st=some m→qfb S C d sc st m
 |0,sc,st,m,h=>nomatch h
 |n+1,sc,[],m,h=>by cases h;exact qu6
 |n+1,sc,s::r,m,h=>by
  refine qac (bnd (show(cS1 sc (cE sc n) (cSs sc n) s).bind (fun m=>(cSs sc n r).map fun ms=>m::ms)=some m from h)) fun a h1 h=>?_
  refine qac (qah h) fun q h2 e72_2=>?_;subst e72_2
  exact qr5 (cS_ok F hC (qqf F hC n) s h1) (qqf F hC n h2)
end
end Mine
end
noncomputable section
namespace Mine
open PySem PySem.Calls PyProof.Rows PySem.W
open Sem (wp)
theorem qot {α:Type}: ∀{ns:List Str} {vs:List α} {n:Str},ns.length=vs.length→n∈ns→ ∃v,(ns.zip vs).lookup n=some v:=by
 intro ns
 induction ns with
 |nil=>exact fun _ h=>nomatch h
 |cons x ns ih=>
  intro vs n hl h;cases vs with
  |nil=>exact nomatch hl
  |cons v vs=>
   rw [List.zip_cons_cons,List.lookup_cons];cases hb:n==x with
   |true=>exact⟨v,rfl⟩
   |false=>
    rcases List.mem_cons.mp h with h|h
    ·rw [h,beq_self_eq_true]at hb;exact nomatch hb
    ·exact ih (Nat.succ.inj hl) h
theorem zip_fm {α:Type}: ∀{ns:List Str} {vs:List α},ns.Nodup→ns.length=vs.length→ns.filterMap (fun n=>((ns.zip vs).lookup n).map (n, ·))=ns.zip vs:=by
 have key: ∀(ns:List Str) (vs:List α) (l:List (Str×α)),ns.Nodup→ns.length=vs.length→(∀n v,(ns.zip vs).lookup n=some v→n∈ns→l.lookup n=some v)→ns.filterMap (fun n=>(l.lookup n).map (n, ·))=ns.zip vs:=by
  intro ns
  induction ns with
  |nil=>intro vs l _ _ _;rfl
  |cons x ns ih=>
   intro vs l hnd hl h;cases vs with
   |nil=>cases hl
   |cons v vs=>
    have h1:l.lookup x=some v:=h x v (by rw [List.zip_cons_cons,List.lookup_cons,beq_self_eq_true]) (.head _)
    rw [List.filterMap_cons,h1];show(x,v)::_=_
    rw [List.zip_cons_cons,ih vs l (List.nodup_cons.mp hnd).2 (Nat.succ.inj hl) fun n u hn hm=>?_];refine h n u ?_ (.tail _ hm)
    have:n≠x:=fun q=>(List.nodup_cons.mp hnd).1 (q ▸ hm)
    rw [List.zip_cons_cons,List.lookup_cons,beq_eq_false_iff_ne.mpr this];exact hn
 intro ns vs hnd hl;exact key ns vs _ hnd hl fun n v h _=>h
theorem qtr {c:Prop} [Decidable c] {a b r:α} (h: ¬c) (k:b=r):(if c then a else b)=r:=(if_neg h).trans k
theorem qvp {fd:FuncData} {vals:List Value} (h1:fd.params.posonlyargs= []) (h2:fd.params.vararg=none) (h3:fd.params.kwonlyargs= []) (h4:fd.params.kwarg=none) (hd:fd.defaults= .none)
  (hnd:(fd.params.args.map (·.arg)).Nodup) (hl:(fd.params.args.map (·.arg)).length=vals.length):bindArgs fd ⟨vals,[]⟩=pure ((fd.params.args.map (·.arg)).zip vals):=by
 have hf:(fd.params.args.map (·.arg)).filter (fun n=>(((fd.params.args.map (·.arg)).zip vals).lookup n).isNone)= []:=by
  refine List.filter_eq_nil_iff.mpr fun n hn=>?_
  refine qaj (qot hl hn) fun v e=>?_
  rw [e];exact fun q=>by cases q
 obtain⟨_,_,⟨po,ar,va,ko,kd,kw,df⟩,_,_,_,_,dd⟩:=fd
 dsimp only at*;subst h1 h2 h3 h4 hd;show(if(decide (vals.length>(List.map (·.arg) ar).length)&&true)=true then(_:Sem (List (Str×Value)))else _)=_
 refine qtr (by rw [hl];simp) ?_
 refine qtr (c:=(!(List.filter (fun n=>(List.lookup n ((ar.map (·.arg)).zip vals)).isNone) (List.take ((ar.map (·.arg)).length- (List.drop (0- (ar.map (·.arg)).length) ([]:List Value)).length) (ar.map (·.arg)))).isEmpty)=true) ?_ ?_
 ·rw [List.drop_nil];show ¬(!(List.filter _ (List.take (ar.map (·.arg)).length _)).isEmpty)=true
  rw [List.take_length,hf];exact Bool.false_ne_true
 show(forIn ((List.drop ((ar.map (·.arg)).length- (List.drop (0- (ar.map (·.arg)).length) ([]:List Value)).length) (ar.map (·.arg))).zip (List.drop (0- (ar.map (·.arg)).length) ([]:List Value))) ((ar.map (·.arg)).zip vals) _>>=_:Sem (List (Str×Value)))=_
 rw [List.drop_nil,List.zip_nil_right];show(pure (List.filterMap (fun n=>(List.lookup n ((ar.map (·.arg)).zip vals)).map (n, ·)) (ar.map (·.arg)++ [])):Sem (List (Str×Value)))=_
 rw [List.append_nil];exact congrArg (pure:_→Sem (List (Str×Value))) (zip_fm hnd hl)
theorem qms {k:Str→Option NameKind} {x:Str}: ∀{bs:List (Str×Value)} {m:Str→Option Value},(∀p∈bs,p.1≠x)→bindL k bs m x=m x:=by
 intro bs
 induction bs with
 |nil=>exact fun _=>rfl
 |cons p r ih=>
  intro m h;refine(ih (m:=if k p.1=some .local then fun y=>if y=p.1 then some p.2 else m y else m) fun q hq=>h q (.tail _ hq)).trans ?_
  by_cases e:k p.1=some .local
  ·rw [if_pos e];exact if_neg fun q=>h p (.head _) q.symm
  ·rw [if_neg e]
theorem qmt {k:Str→Option NameKind} {x:Str}: ∀{bs:List (Str×Value)} {m:Str→Option Value},(∀p∈bs,p.1≠x)→bindC k bs m x=m x:=by
 intro bs
 induction bs with
 |nil=>exact fun _=>rfl
 |cons p r ih=>
  intro m h;refine(ih (m:=if k p.1=some .local then m else fun y=>if y=p.1 then some p.2 else m y) fun q hq=>h q (.tail _ hq)).trans ?_
  by_cases e:k p.1=some .local
  ·rw [if_pos e]
  ·rw [if_neg e];exact if_neg fun q=>h p (.head _) q.symm
theorem qle {ps:List String} {ys:List Value} {x:String} (h:x∉ps): ∀p∈(ps.map Str.ofString).zip ys,p.1≠Str.ofString x:=fun p hp q=>by
 have:=(List.of_mem_zip (show(p.1,p.2)∈_ from hp)).1
 refine qac (List.mem_map.mp this) fun y hy e=>?_
 exact h (qbq (e.trans q) ▸ hy)
theorem qhw {R:V→Value→Prop} {k:Str→Option NameKind} {vs:List V} {ys:List Value} (ha:All2 R vs ys): ∀{ps:List String} {l:Locs} {m cm:Str→Option Value},qdl ps vs=some l→ps.Nodup→ ∀x v,l x=some v→
  x∈ps∧(k (Str.ofString x)=some .local→ ∃y,bindL k ((ps.map Str.ofString).zip ys) m (Str.ofString x)=some y∧R v y)∧(k (Str.ofString x)≠some .local→ ∃y,bindC k ((ps.map Str.ofString).zip ys) cm (Str.ofString x)=some y∧R v y):=by
 induction ha with
 |nil=>
  intro ps l m cm h _ x v hx;cases ps with
  |nil=>cases h;cases hx
  |cons _ _=>cases h
 | @cons u y vs ys r t ih=>
  intro ps l m cm h hnd x v hx;cases ps with
  |nil=>cases h
  |cons p ps=>
   refine qac (qah (show(qdl ps vs).map (fun l=>l.set p u)=some l from h)) fun l' h' e2_2=>?_;subst e2_2
   refine qa1 (List.nodup_cons.mp hnd) fun n1 n2=>?_
   by_cases e:x=p
   ·subst e;have:v=u:=by
     have:(l'.set x u) x=some u:=Locs.at ..
     rw [hx]at this;exact Option.some.inj this
    subst this;refine⟨.head _,fun hk=>⟨y,?_,r⟩,fun hk=>⟨y,?_,r⟩⟩
    ·show bindL k ((Str.ofString x,y)::((ps.map Str.ofString).zip ys)) m _=_
     unfold bindL;rw [qms (qle n1),if_pos hk,if_pos rfl]
    ·show bindC k ((Str.ofString x,y)::((ps.map Str.ofString).zip ys)) cm _=_
     unfold bindC;rw [qmt (qle n1),if_neg hk,if_pos rfl]
   ·have hx':l' x=some v:=by
     have:(l'.set p u) x=l' x:=Locs.ne e
     rw [←this];exact hx
    have ih:=ih (m:=if k (Str.ofString p)=some .local then fun z=>if z=Str.ofString p then some y else m z else m) (cm:=if k (Str.ofString p)=some .local then cm else fun z=>if z=Str.ofString p then some y else cm z) h' n2 x v hx'
    refine⟨.tail _ ih.1,fun hk=>?_,fun hk=>?_⟩
    ·refine qac (ih.2.1 hk) fun z q rz=>?_
     refine⟨z,?_,rz⟩
     show bindL k ((Str.ofString p,y)::_) m _=_
     unfold bindL;exact q
    ·refine qac (ih.2.2 hk) fun z q rz=>?_
     refine⟨z,?_,rz⟩
     show bindC k ((Str.ofString p,y)::_) cm _=_
     unfold bindC;exact q
theorem qjc: ∀{ps:List String} {vs:List V} {l:Locs},qdl ps vs=some l→ps.length=vs.length
 | [],[],_,_=>rfl
 | [],_::_,_,h=>by cases h
 |_::_,[],_,h=>by cases h
 |p::ps,v::vs,l,h=>by
  refine qac (qah (show(qdl ps vs).map (fun l=>l.set p v)=some l from h)) fun l' h' e6_2=>?_;subst e6_2
  show ps.length+1=vs.length+1
  rw [qjc h']
section
variable {w:World} {S:qc5 prog w} {P:Fn→Option Def} {d:Nat}
noncomputable def FnOK (S:qc5 prog w) (a:Addr) (D:Def):Prop:= ∀G:Prop,(∀o fd body n,S.B.get? a=some o→o.data= .func fd→fd.body= .stmts body→fd.closure= []→fd.defaults= .none→fd.params.posonlyargs= []→fd.params.vararg=none→fd.params.kwonlyargs= []→fd.params.kwarg=none→
  fd.globals=mainGlobals→fd.builtins=builtinsNs→fd.scope.isCoroutine=false→fd.scope.isGenerator=false→fd.scope.kind= .function→S.B.CodeRec fd.code fd.qualname→
  fd.params.args.map (·.arg)=D.params.map Str.ofString→D.params.Nodup→(∀p∈D.params,qbi fd.scope (Str.ofString p)=true)→cSs fd.scope n body=some D.body→G)→G
theorem qlf {sc:Scope} {x:Str} (h:qbi sc x=true):sc.names.lookup x=some .local∨sc.names.lookup x=some .cell:=by
 unfold qbi at h;generalize sc.names.lookup x=o at h
 match o with
 |some .local=>exact .inl rfl
 |some .cell=>exact .inr rfl
noncomputable def flV:MFl→V
 | .next=> .none
 | .ret v=>v
theorem runM_e {f:Fn} {vs:List V} {σ σ':St} {v:V} {G:Prop} (h:qag P (d+1) f vs σ=some (v,σ')) (k: ∀D l fl l',P f=some D→qdl D.params vs=some l→qbk (qag P d) D.body l σ=some (fl,l',σ')→v=flV fl→G):G:=by
 have h:(match P f with
  |none=>none
  |some D=>match qdl D.params vs with
   |none=>none
   |some l=>match qbk (qag P d) D.body l σ with
    |some (.next,_,σ)=>some (.none,σ)
    |some (.ret v,_,σ)=>some (v,σ)
    |none=>none)=some (v,σ'):=h
 cases hD:P f with
 |none=>rw [hD]at h;exact nomatch h
 |some D=>
  rw [hD]at h;dsimp only at h;cases hl:qdl D.params vs with
  |none=>rw [hl]at h;exact nomatch h
  |some l=>
   rw [hl]at h;dsimp only at h;cases hr:qbk (qag P d) D.body l σ with
   |none=>rw [hr]at h;exact nomatch h
   |some r=>
    rw [hr]at h;obtain⟨fl,l',σ₂⟩:=r
    revert k;cases fl with
    |next=>exact qcs h fun k=>k D l _ l' hD hl hr rfl
    |ret u=>exact qcs h fun k=>k D l _ l' hD hl hr rfl
theorem qsf (F:PF S P) (hfn: ∀f D,P f=some D→FnOK S (F.fA f) D): ∀d,qc7 F (qag P d) d:=by
 intro d
 induction d with
 |zero=>exact fun f vs σ v σ' h=>nomatch h
 |succ d ihd=>
 intro f vs σ v σ' h;refine runM_e h fun D l fl l' hD hl hr hv=>?_
 clear h;refine And.intro (fun q=>by rw [hD]at q;cases q) fun A ρ s ys B R hys=>?_
 refine hfn f D hD _ fun o fd body n e1 e2 e3 e4 e5 e6 e7 e8 e9 e10 e11 e12 e13 e14 e15 e16 e17 e18 e19=>?_
 have hk:=qqf F ihd n e19
 have hlen:(fd.params.args.map (·.arg)).length=ys.length:=by rw [e16,List.length_map,qjc hl,hys.length]
 have hnd:(fd.params.args.map (·.arg)).Nodup:=by
  rw [e16];exact List.Pairwise.map _ (fun a b h q=>h (qbq q)) e17
 have hpos:0<recursionLimit:=by decide
 have hroom:A.depth<recursionLimit:=by
  have:=B.dep
  exact Nat.lt_of_le_of_lt (oq2 this) (show 990<recursionLimit by decide)
 have hko: ∀x∈(fd.params.args.map (·.arg)).zip ys,fd.scope.names.lookup x.1=some .local∨fd.scope.names.lookup x.1=some .cell:=fun x hx=>by
  have:=(List.of_mem_zip (show(x.1,x.2)∈_ from hx)).1
  rw [e16]at this;refine qac (List.mem_map.mp this) fun p hp e=>?_
  rw [←e];exact qlf (e18 p hp)
 have hbind:bindArgs fd ⟨ys,[]⟩=pure ((D.params.map Str.ofString).zip ys):=by rw [←e16];exact qvp e6 e7 e8 e9 e5 hnd hlen
 rw [e16]at hko;refine qn0 hroom (R.base _ _ e1) e2 (F.lim.keeps R.base) (e15.keeps R.base) e3 hbind e4 (fun x hx=>(hko x hx).imp id fun q=>⟨q,cellsFrom_some _ _ _ (.inl q)⟩) (fun s₁ hin=>?_) e12 e13 e14
 generalize henv:callEnvC fd s.heap.objs.size (F.fA f)=env at hin ⊢
 have hsc:env.scope=fd.scope:=by rw [←henv];rfl
 have hcells:env.cells=cellsFrom (s.heap.objs.size+1) fd.scope.names []:=by rw [←henv];rfl
 have hloc:env.locals=s.heap.objs.size:=by rw [←henv];rfl
 have hko': ∀x,env.kindOf x=fd.scope.names.lookup x:=fun x=>by unfold Env.kindOf;rw [hsc]
 have hE:EnvFor fd.scope env:= {
  kind:=by rw [hsc];exact e14
  glob:=by rw [←henv];exact e10
  blt:=by rw [←henv];exact e11
  loc:=fun x h=>(hko' x).trans h
  cell:=fun x h=>(hko' x).trans h
  free:=fun x h=> .inr ((hko' x).trans h)
  gl:=fun x h=>(hko' x).trans h}
 have hfresh: ∀b,FrA env b→s.heap.get? b=none:=fun b hb=>by
  have hge:s.heap.objs.size≤b:=by
   rcases hb with rfl|⟨x,hx⟩
   ·rw [hloc];exact Nat.le_refl _
   ·have:=hin.above x b (mem_of_lookup hx)
    rw [hloc]at this;exact Nat.le_of_lt this
  cases q:s.heap.get? b with
  |none=>rfl
  |some o'=>exact absurd (Heap.lt_size q) (Nat.not_lt.mpr hge)
 obtain⟨⟨h₁,tk,rfl⟩,hns,hkeep,_⟩:=hin.toInCall
 have p₁: ∀F',Post S F' ρ σ s ρ σ {s with heap:=h₁,toks:=tk}:=fun F'=>Post.keeps R hkeep
 have hFR:FR S ρ σ env l h₁:= {
  ns:=⟨_,hns,fun x u hu hk=>(qhw (cm:=fun _=>none) hys hl e17 x u hu).2.1 hk⟩
  cel:=fun x u hu hk=>by
   have h3:=qhw (R:=VR ρ σ.next) (k:=env.kindOf) (m:=fun _=>none) (cm:=fun _=>none) hys hl e17 x u hu
   have hcell:env.kindOf (Str.ofString x)=some .cell:=by
    rcases hk with q|q
    ·exact q
    ·rcases qlf (e18 x h3.1)with h|h<;>rw [←hko',q]at h<;>exact nomatch h
   refine qac (h3.2.2 (by rw [hcell];decide)) fun y q r=>?_
   refine qaj (Option.isSome_iff_exists.mp (cellsFrom_some (x:=Str.ofString x) fd.scope.names (s.heap.objs.size+1) [] (.inl ((hko' _).symm.trans hcell)))) fun c hc=>?_
   rw [←hcells]at hc;exact⟨c,y,hc,q ▸ hin.cell _ _ hc,r⟩
  all:=fun x hcell=>by
   refine qaj (Option.isSome_iff_exists.mp (cellsFrom_some (x:=x) fd.scope.names (s.heap.objs.size+1) [] (.inl ((hko' _).symm.trans hcell)))) fun c hc=>?_
   rw [←hcells]at hc;exact⟨c,_,hc,hin.cell _ _ hc⟩
  there:=fun x c hc=>⟨_,hin.cell _ _ hc⟩
  no:=fun b hb ⟨lo,hlo,e⟩=>by
   refine qaj (R.cellThere hlo) fun ob q=>?_
   rw [e,hfresh b hb]at q;exact qa3 q
  bs:=fun b hb=>by
   cases q:S.B.get? b with
   |none=>rfl
   |some o'=>
    have:=R.base _ _ q
    rw [hfresh b hb]at this;exact qa3 this
  ap:=fun x y c hx hy=>name_of_addr hin.apart (mem_of_lookup hx) (mem_of_lookup hy)
  lc:=fun x c hx=>Nat.ne_of_gt (hin.above x c (mem_of_lookup hx))}
 have I:In_ S d (A.deeper env) fd.scope env l ρ σ {s with heap:=h₁,toks:=tk}:=⟨⟨B.hd,B.gd,by have:=B.dep;show A.depth+1+5*d+4≤990;lia,by have:=B.un;show A.units+3+30*d+20≤9700;lia⟩,hE,(p₁ noF).rel,hFR⟩
 have fin: ∀{fl l' σ₂ fw s'},PS S env ρ σ {s with heap:=h₁,toks:=tk} fl l' σ₂ fw s'→ ∃ρ',Post S noF ρ σ s ρ' σ₂ s'∧FR S ρ' σ₂ env l' s'.heap∧(match fl with| .next=>fw= .next| .ret v=> ∃y,fw= .ret y∧VR ρ' σ₂.next v y):=fun⟨ρ',p,f',q⟩=>
  ⟨ρ',((p₁ _).trans p).weak (fun b o e hF=>by rw [hfresh b hF]at e;cases e),f',q⟩
 refine k_mono (hk _ _ _ _ _ _ _ _ _ I hr) fun fw s' ps=>?_
 refine qao (fin ps) fun ρ' p _ q=>?_
 subst hv;cases fl with
 |next=>subst q;exact⟨_,rfl,ρ',p,rfl⟩
 |ret u=>
  refine qac q fun y q hv=>?_
  subst q;exact⟨_,rfl,ρ',p,hv⟩
end
end Mine
end
noncomputable section
namespace Mine
noncomputable def qd8:Def:= {params:= ["value"],body:= [.ifs (.bi (.isInt) [.var "value"]) [.raise] [],.tryB [.ret (.bi (.bytes) [.var "value"])]]}
noncomputable def D__law_well:Def:= {params:= ["script"],body:= [.asgTup ["whole","stirred"] [.int 0,.int 83],.forL "cell" (.sliceTo (.var "script") (.int 28)) [.ifs (.cmp (.ge) (.var "cell") (.bin (.pow) (.int 10) (.int 18))) [.asgVar "whole" (.bin (.mod) (.bin (.sub) (.bin (.add) (.bin (.mul) (.var "whole") (.int 1021)) (.var "cell")) (.bin (.pow) (.int 10) (.int 18))) (.bin (.pow) (.int 10) (.int 140)))] [.asgVar "stirred" (.bin (.mod) (.bin (.add) (.bin (.mul) (.var "stirred") (.int 16807)) (.var "cell")) (.int 2147483399))]],.ret (.lst [.var "whole",.var "stirred",.int 0])]}
noncomputable def qdi:Def:= {params:= ["well","many"],body:= [.ifs (.cmp (.gt) (.item (.var "well") (.int 0)) (.int 0)) [.asgVar "digit" (.bin (.mod) (.item (.var "well") (.int 0)) (.var "many")),.asgItem (.var "well") (.int 0) (.bin (.fdiv) (.item (.var "well") (.int 0)) (.var "many")),.ret (.var "digit")] [],.augItem (.var "well") (.int 2) (.add) (.int 1),.ret (.bin (.mod) (.bin (.fdiv) (.bin (.mod) (.bin (.pow) (.bin (.add) (.item (.var "well") (.int 1)) (.bin (.mul) (.int 7919) (.item (.var "well") (.int 2)))) (.int 3)) (.int 2147483399)) (.int 32)) (.var "many"))]}
noncomputable def qfd:Def:= {params:= ["first","most"],body:= [.asgTup ["cache","kept"] [.new (.cache) [.meth (.var "first") "copy" [],.var "most"],.comp (.meth (.var "first") "read" [.var "number"]) "number" 1 [.attr (.var "first") "blocks"] none],.ret (.dct ["cache","most","hands","shown","kept","counts"] [.var "cache",.var "most",.dct [] [],.dct [] [],.var "kept",.lst [.int 0,.int 0,.int 0]])]}
noncomputable def D__law_deed:Def:= {params:= ["well","disk","least","held"],body:= [.asgTup ["way","number"] [.item (.lst [.int 0,.int 0,.int 0,.int 0,.int 1,.int 2,.int 2,.int 4,.int 5,.int 5,.int 6,.int 7]) (.call "_law_draw" [.var "well",.int 12]),.call "_law_draw" [.var "well",.attr (.var "disk") "blocks"]],.asgTup ["place","base"] [.call "_law_draw" [.var "well",.attr (.var "disk") "size"],.call "_law_draw" [.var "well",.int 128]],.ifs (.and (.cmp (.lt) (.var "way") (.int 6)) (.and (.cmp (.notIn) (.var "number") (.var "held")) (.cmp (.eq) (.bi (.len) [.var "held"]) (.var "least")))) [.asgTup ["way","number"] [.int 3,.item (.var "held") (.bin (.mod) (.var "number") (.var "least"))]] [.ifs (.and (.cmp (.eq) (.var "way") (.int 2)) (.cmp (.isIn) (.var "number") (.var "held"))) [.asgVar "way" (.int 3)] []],.ret (.tup [.var "way",.var "number",.var "place",.bi (.bytes) [.comp (.bin (.add) (.int 128) (.bin (.mod) (.bin (.add) (.var "base") (.bin (.mul) (.int 5) (.var "at"))) (.int 128))) "at" 1 [.attr (.var "disk") "size"] none]])]}
noncomputable def D__law_done:Def:= {params:= ["side","deed"],body:= [.asgUnp ["way","number","place","octets"] (.var "deed"),.asgTup ["cache","hands"] [.item (.var "side") (.str "cache"),.item (.var "side") (.str "hands")],.ifs (.cmp (.eq) (.var "way") (.int 0)) [.ret (.meth (.var "cache") "peek" [.var "number"])] [],.ifs (.cmp (.eq) (.var "way") (.int 1)) [.ret (.meth (.var "cache") "poke" [.var "number",.var "octets"])] [],.ifs (.cmp (.eq) (.var "way") (.int 3)) [.ret (.meth (.var "cache") "release" [.meth (.var "hands") "pop" [.var "number"]])] [],.ifs (.cmp (.eq) (.var "way") (.int 6)) [.ret (.meth (.attr (.var "cache") "disk") "write" [.var "number",.var "octets"])] [],.ifs (.cmp (.eq) (.var "way") (.int 7)) [.ret (.meth (.var "cache") "forget" [])] [],.asgVar "buffer" (.ite (.cmp (.isIn) (.var "number") (.var "hands")) (.item (.var "hands") (.var "number")) (.meth (.var "cache") "get" [.var "number"])),.asgVar "before" (.meth (.var "buffer") "octets" []),.ifs (.cmp (.eq) (.var "way") (.int 2)) [.asgItem (.var "hands") (.var "number") (.var "buffer"),.ret (.var "before")] [],.expr (.meth (.var "buffer") "put" [.var "place",.sliceFrom (.var "octets") (.var "place")]),.ifs (.cmp (.eq) (.var "way") (.int 5)) [.expr (.meth (.var "cache") "write" [.var "buffer"])] [],.ifs (.cmp (.notIn) (.var "number") (.var "hands")) [.expr (.meth (.var "cache") "release" [.var "buffer"])] [],.ret (.var "before")]}
noncomputable def D__law_between:Def:= {params:= ["row","held","number"],body:= [.ifs (.cmp (.isIn) (.var "number") (.var "held")) [.ret (.int 0)] [],.asgVar "found" (.bi (.list) [.var "held"]),.forRev "other" (.var "row") [.ifs (.cmp (.lt) (.var "other") (.int 0)) [.ret (.int 99)] [],.ifs (.cmp (.eq) (.var "other") (.var "number")) [.ret (.bi (.len) [.var "found"])] [],.ifs (.cmp (.notIn) (.var "other") (.var "found")) [.expr (.meth (.var "found") "append" [.var "other"])] []],.ret (.int 99)]}
noncomputable def qa9:Def:= {params:= ["side","deed","held","between"],body:= [.asgUnp ["way","number","place","octets"] (.var "deed"),.asgTup ["shown","kept","counts"] [.item (.var "side") (.str "shown"),.item (.var "side") (.str "kept"),.item (.var "side") (.str "counts")],.ifs (.or (.cmp (.lt) (.var "way") (.int 3)) (.and (.cmp (.isIn) (.var "way") (.tup [.int 4,.int 5])) (.cmp (.notIn) (.var "number") (.var "held")))) [.asgVar "is_found" (.cmp (.lt) (.var "between") (.item (.var "side") (.str "most"))),.augItem (.var "counts") (.ite (.var "is_found") (.int 0) (.int 1)) (.add) (.int 1),.ifs (.not (.var "is_found")) [.asgItem (.var "shown") (.var "number") (.item (.var "kept") (.var "number"))] []] [],.asgVar "before" (.meth (.var "shown") "get" [.var "number"]),.ifs (.cmp (.eq) (.var "way") (.int 1)) [.asgItem (.var "shown") (.var "number") (.var "octets")] [.ifs (.cmp (.isIn) (.var "way") (.tup [.int 4,.int 5])) [.asgItem (.var "shown") (.var "number") (.bin (.add) (.sliceTo (.var "before") (.var "place")) (.sliceFrom (.var "octets") (.var "place")))] []],.ifs (.cmp (.isIn) (.var "way") (.tup [.int 1,.int 5])) [.augItem (.var "counts") (.int 2) (.add) (.int 1),.asgItem (.var "kept") (.var "number") (.item (.var "shown") (.var "number"))] [.ifs (.cmp (.eq) (.var "way") (.int 6)) [.asgItem (.var "kept") (.var "number") (.var "octets")] []],.ret (.ite (.cmp (.isIn) (.var "way") (.tup [.int 0,.int 2,.int 4,.int 5])) (.var "before") (.none))]}
noncomputable def qbp:Def:= {params:= ["row","held","deed"],body:= [.asgTup ["way","number"] [.item (.var "deed") (.int 0),.item (.var "deed") (.int 1)],.ifs (.cmp (.eq) (.var "way") (.int 2)) [.expr (.meth (.var "held") "append" [.var "number"])] [.ifs (.cmp (.eq) (.var "way") (.int 3)) [.expr (.meth (.var "held") "remove" [.var "number"])] [.ifs (.cmp (.eq) (.var "way") (.int 7)) [.expr (.meth (.var "row") "append" [.neg (.int 1)])] []]],.ifs (.and (.cmp (.lt) (.var "way") (.int 6)) (.cmp (.notIn) (.var "number") (.var "held"))) [.expr (.meth (.var "row") "append" [.var "number"])] []]}
noncomputable def D__law_latest:Def:= {params:= ["row","held"],body:= [.asgVar "found" (.lst []),.forRev "other" (.var "row") [.ifs (.cmp (.lt) (.var "other") (.int 0)) [.ret (.var "found")] [],.ifs (.and (.cmp (.notIn) (.var "other") (.var "held")) (.cmp (.notIn) (.var "other") (.var "found"))) [.expr (.meth (.var "found") "append" [.var "other"])] []],.ret (.var "found")]}
noncomputable def D__law_seen:Def:= {params:= ["side","held","latest"],body:= [.asgTup ["cache","due"] [.item (.var "side") (.str "cache"),.sliceTo (.var "latest") (.bin (.sub) (.item (.var "side") (.str "most")) (.bi (.len) [.var "held"]))],.asgVar "known" (.meth (.var "cache") "known" []),.ifs (.or (.cmp (.ne) (.comp (.var "number") "number" 0 [.var "known"] (some (.cmp (.notIn) (.var "number") (.var "held")))) (.bi (.listRev) [.var "due"])) (.cmp (.ne) (.bi (.sorted) [.var "known"]) (.bi (.sorted) [.bin (.add) (.var "held") (.var "due")]))) [.ret (.bool false)] [],.ret (.cmp (.eq) (.lst [.attr (.var "cache") "hits",.attr (.var "cache") "reads",.attr (.var "cache") "writes"]) (.item (.var "side") (.str "counts")))]}
noncomputable def D_law:Def:= {params:= ["script"],body:= [.asgTup ["well","wide"] [.call "_law_well" [.ite (.cmp (.ne) (.var "script") (.lst [])) (.var "script") (.lst [.int 2433315606800765229047156627445761])],.cmp (.gt) (.bi (.len) [.var "script"]) (.int 1)],.asgVar "first" (.new (.disk) [.ite (.var "wide") (.bin (.add) (.int 3) (.call "_law_draw" [.var "well",.int 3])) (.int 3),.bin (.add) (.int 2) (.call "_law_draw" [.var "well",.int 3])]),.asgTup ["least","row","held"] [.bin (.add) (.int 1) (.ite (.var "wide") (.call "_law_draw" [.var "well",.int 2]) (.int 0)),.lst [],.lst []],.forRange "number" (.attr (.var "first") "blocks") [.expr (.meth (.var "first") "write" [.var "number",.bi (.bytes) [.comp (.bin (.add) (.bin (.mul) (.int 16) (.var "number")) (.var "at")) "at" 1 [.attr (.var "first") "size"] none]])],.expr (.meth (.var "first") "flush" []),.asgVar "sides" (.comp (.call "_law_side" [.var "first",.var "most"]) "most" 2 [.var "least",.bin (.add) (.attr (.var "first") "blocks") (.int 2)] none),.forRange "turn" (.ite (.var "wide") (.bin (.add) (.int 16) (.call "_law_draw" [.var "well",.int 6])) (.int 8)) [.asgVar "deed" (.call "_law_deed" [.var "well",.var "first",.var "least",.var "held"]),.asgVar "between" (.call "_law_between" [.var "row",.var "held",.item (.var "deed") (.int 1)]),.forL "side" (.var "sides") [.ifs (.cmp (.ne) (.call "_law_done" [.var "side",.var "deed"]) (.call "_law_due" [.var "side",.var "deed",.var "held",.var "between"])) [.ret (.bool false)] []],.expr (.call "_law_led_on" [.var "row",.var "held",.var "deed"]),.asgVar "latest" (.call "_law_latest" [.var "row",.var "held"]),.forL "side" (.var "sides") [.ifs (.not (.call "_law_seen" [.var "side",.var "held",.var "latest"])) [.ret (.bool false)] []]],.forL "side" (.var "sides") [.ifs (.cmp (.ne) (.comp (.meth (.attr (.item (.var "side") (.str "cache")) "disk") "read" [.var "number"]) "number" 1 [.attr (.var "first") "blocks"] none) (.item (.var "side") (.str "kept"))) [.ret (.bool false)] []],.ret (.bool true)]}
noncomputable def qb9:Def:= {params:= ["self","number","octets"],body:= [.asgAttr (.var "self") "number" (.var "number"),.asgAttr (.var "self") "data" (.bi (.bytearray) [.var "octets"]),.asgAttr (.var "self") "holders" (.int 0),.asgAttr (.var "self") "pins" (.int 0)]}
noncomputable def qcb:Def:= {params:= ["self"],body:= [.ret (.and (.cmp (.eq) (.attr (.var "self") "holders") (.int 0)) (.cmp (.eq) (.attr (.var "self") "pins") (.int 0)))]}
noncomputable def qcj:Def:= {params:= ["self"],body:= [.ret (.bi (.bytes) [.attr (.var "self") "data"])]}
noncomputable def qb7:Def:= {params:= ["self","place","count"],body:= [.ifs (.or (.cmp (.lt) (.var "place") (.int 0)) (.or (.cmp (.lt) (.var "count") (.int 0)) (.cmp (.gt) (.bin (.add) (.var "place") (.var "count")) (.bi (.len) [.attr (.var "self") "data"])))) [.raise] []]}
noncomputable def qdo:Def:= {params:= ["self","place","octets"],body:= [.expr (.meth (.var "self") "need_part" [.var "place",.bi (.len) [.var "octets"]]),.asgSlice (.attr (.var "self") "data") (some (.var "place")) (some (.bin (.add) (.var "place") (.bi (.len) [.var "octets"]))) (.var "octets")]}
noncomputable def qdd:Def:= {params:= ["self","octets"],body:= [.ifs (.cmp (.ne) (.bi (.len) [.var "octets"]) (.bi (.len) [.attr (.var "self") "data"])) [.raise] [],.asgSlice (.attr (.var "self") "data") none none (.var "octets")]}
noncomputable def qcc:Def:= {params:= ["self","disk","most"],body:= [.ifs (.cmp (.lt) (.var "most") (.int 1)) [.raise] [],.asgAttr (.var "self") "disk" (.var "disk"),.asgAttr (.var "self") "most" (.var "most"),.asgAttr (.var "self") "size" (.attr (.var "disk") "size"),.asgAttr (.var "self") "row" (.lst []),.asgAttr (.var "self") "by_number" (.dct [] []),.asgAttr (.var "self") "hits" (.int 0),.asgAttr (.var "self") "reads" (.int 0),.asgAttr (.var "self") "writes" (.int 0)]}
noncomputable def qbg:Def:= {params:= ["self","number"],body:= [.ifs (.or (.not (.bi (.isInt) [.var "number"])) (.not (.chain (.int 0) (.le) (.var "number") (.lt) (.attr (.attr (.var "self") "disk") "blocks")))) [.raise] []]}
noncomputable def qbs:Def:= {params:= ["self","buffer"],body:= [.ifs (.or (.cmp (.isnt) (.meth (.attr (.var "self") "by_number") "get" [.attr (.var "buffer") "number"]) (.var "buffer")) (.cmp (.eq) (.attr (.var "buffer") "holders") (.int 0))) [.raise] []]}
noncomputable def qdj:Def:= {params:= ["self","number"],body:= [.expr (.meth (.var "self") "need_block" [.var "number"]),.asgVar "found" (.meth (.attr (.var "self") "by_number") "get" [.var "number"]),.ifs (.cmp (.is) (.var "found") (.none)) [.expr (.meth (.var "self") "make_room" []),.asgVar "found" (.new (.buffer) [.var "number",.meth (.attr (.var "self") "disk") "read" [.var "number"]]),.augAttr (.var "self") "reads" (.add) (.int 1),.asgItem (.attr (.var "self") "by_number") (.var "number") (.var "found"),.expr (.meth (.attr (.var "self") "row") "append" [.var "found"])] [.augAttr (.var "self") "hits" (.add) (.int 1)],.augAttr (.var "found") "holders" (.add) (.int 1),.ret (.var "found")]}
noncomputable def D_Cache_make_room:Def:= {params:= ["self"],body:= [.ifs (.cmp (.lt) (.bi (.len) [.attr (.var "self") "row"]) (.attr (.var "self") "most")) [.retNone] [],.forEnum "place" "buffer" (.attr (.var "self") "row") [.ifs (.meth (.var "buffer") "is_free" []) [.delItem (.attr (.var "self") "by_number") (.attr (.var "buffer") "number"),.delItem (.attr (.var "self") "row") (.var "place"),.retNone] []],.raise]}
noncomputable def qb8:Def:= {params:= ["self","buffer"],body:= [.expr (.meth (.var "self") "need_held" [.var "buffer"]),.augAttr (.var "buffer") "holders" (.sub) (.int 1),.ifs (.cmp (.eq) (.attr (.var "buffer") "holders") (.int 0)) [.expr (.meth (.attr (.var "self") "row") "remove" [.var "buffer"]),.expr (.meth (.attr (.var "self") "row") "append" [.var "buffer"])] []]}
noncomputable def qde:Def:= {params:= ["self","buffer"],body:= [.expr (.meth (.var "self") "need_held" [.var "buffer"]),.expr (.meth (.attr (.var "self") "disk") "write" [.attr (.var "buffer") "number",.meth (.var "buffer") "octets" []]),.augAttr (.var "self") "writes" (.add) (.int 1)]}
noncomputable def qc2:Def:= {params:= ["self","number"],body:= [.asgVar "buffer" (.meth (.var "self") "get" [.var "number"]),.asgVar "octets" (.meth (.var "buffer") "octets" []),.expr (.meth (.var "self") "release" [.var "buffer"]),.ret (.var "octets")]}
noncomputable def qc3:Def:= {params:= ["self","number","octets"],body:= [.expr (.meth (.var "self") "need_block" [.var "number"]),.ifs (.cmp (.ne) (.bi (.len) [.var "octets"]) (.attr (.var "self") "size")) [.raise] [],.asgVar "buffer" (.meth (.var "self") "get" [.var "number"]),.expr (.meth (.var "buffer") "fill" [.var "octets"]),.expr (.meth (.var "self") "write" [.var "buffer"]),.expr (.meth (.var "self") "release" [.var "buffer"])]}
noncomputable def qd9:Def:= {params:= ["self"],body:= [.ret (.comp (.attr (.var "buffer") "number") "buffer" 0 [.attr (.var "self") "row"] none)]}
noncomputable def D_Cache_forget:Def:= {params:= ["self"],body:= [.forL "buffer" (.bi (.list) [.attr (.var "self") "row"]) [.ifs (.meth (.var "buffer") "is_free" []) [.delItem (.attr (.var "self") "by_number") (.attr (.var "buffer") "number"),.expr (.meth (.attr (.var "self") "row") "remove" [.var "buffer"])] []]]}
noncomputable def qck:Def:= {params:= ["self","blocks","size"],body:= [.ifs (.or (.cmp (.lt) (.var "blocks") (.int 1)) (.cmp (.lt) (.var "size") (.int 1))) [.raise] [],.asgAttr (.var "self") "blocks" (.var "blocks"),.asgAttr (.var "self") "size" (.var "size"),.asgAttr (.var "self") "kept" (.dct [] []),.asgAttr (.var "self") "latest" (.dct [] []),.asgAttr (.var "self") "unflushed" (.lst []),.asgAttr (.var "self") "writes" (.int 0),.asgAttr (.var "self") "flushes" (.int 0),.asgAttr (.var "self") "last" (.none),.asgAttr (.var "self") "last_flush" (.none),.asgAttr (.var "self") "is_dead" (.bool false)]}
noncomputable def qbt:Def:= {params:= ["self"],body:= [.ifs (.attr (.var "self") "is_dead") [.raise] []]}
noncomputable def qb0:Def:= {params:= ["self","number"],body:= [.ifs (.or (.not (.bi (.isInt) [.var "number"])) (.not (.chain (.int 0) (.le) (.var "number") (.lt) (.attr (.var "self") "blocks")))) [.raise] []]}
noncomputable def qea:Def:= {params:= ["self","number"],body:= [.expr (.meth (.var "self") "need_power" []),.expr (.meth (.var "self") "need_block" [.var "number"]),.ret (.meth (.attr (.var "self") "latest") "get" [.var "number",.bi (.bytes) [.attr (.var "self") "size"]])]}
noncomputable def qdp:Def:= {params:= ["self","number","octets"],body:= [.expr (.meth (.var "self") "need_power" []),.expr (.meth (.var "self") "need_block" [.var "number"]),.asgVar "block" (.call "octets_in" [.var "octets"]),.ifs (.cmp (.ne) (.bi (.len) [.var "block"]) (.attr (.var "self") "size")) [.raise] [],.ifs (.and (.cmp (.isnt) (.attr (.var "self") "last") (.none)) (.cmp (.ge) (.attr (.var "self") "writes") (.attr (.var "self") "last"))) [.expr (.meth (.var "self") "fail" [])] [],.augAttr (.var "self") "writes" (.add) (.int 1),.asgItem (.attr (.var "self") "latest") (.var "number") (.var "block"),.expr (.meth (.attr (.var "self") "unflushed") "append" [.tup [.var "number",.var "block"]])]}
noncomputable def D_Disk_flush:Def:= {params:= ["self"],body:= [.expr (.meth (.var "self") "need_power" []),.ifs (.and (.cmp (.isnt) (.attr (.var "self") "last_flush") (.none)) (.cmp (.ge) (.attr (.var "self") "flushes") (.attr (.var "self") "last_flush"))) [.expr (.meth (.var "self") "fail" [])] [],.augAttr (.var "self") "flushes" (.add) (.int 1),.forUnp ["number","octets"] (.attr (.var "self") "unflushed") [.asgItem (.attr (.var "self") "kept") (.var "number") (.var "octets")],.asgAttr (.var "self") "unflushed" (.lst [])]}
noncomputable def qem:Def:= {params:= ["self","chosen"],body:= [.asgTup ["found","places"] [.new (.disk) [.attr (.var "self") "blocks",.attr (.var "self") "size"],.bi (.list) [.var "chosen"]],.asgAttr (.var "found") "kept" (.bi (.dict) [.attr (.var "self") "kept"]),.forL "place" (.var "places") [.ifs (.not (.chain (.int 0) (.le) (.var "place") (.lt) (.bi (.len) [.attr (.var "self") "unflushed"]))) [.raise] []],.forEnum0 (.attr (.var "self") "unflushed"),.asgAttr (.var "found") "latest" (.bi (.dict) [.attr (.var "found") "kept"]),.ret (.var "found")]}
noncomputable def qfe:Def:= {params:= ["self"],body:= [.ret (.meth (.var "self") "after" [.bi (.listRange) [.bi (.len) [.attr (.var "self") "unflushed"]]])]}
noncomputable def fnTable:List (Fn×Def×Nat):= [(.f "octets_in",qd8,417),(.f "_law_well",D__law_well,424),(.f "_law_draw",qdi,431),(.f "_law_side",qfd,436),(.f "_law_deed",D__law_deed,441),(.f "_law_done",D__law_done,448),(.f "_law_between",D__law_between,455),(.f "_law_due",qa9,462),(.f "_law_led_on",qbp,469),(.f "_law_latest",D__law_latest,476),(.f "_law_seen",D__law_seen,481),(.f "law",D_law,486),(.m .buffer "__init__",qb9,111),(.m .buffer "is_free",qcb,118),(.m .buffer "octets",qcj,125),(.m .buffer "need_part",qb7,132),(.m .buffer "put",qdo,146),(.m .buffer "fill",qdd,153),(.m .cache "__init__",qcc,209),(.m .cache "need_block",qbg,216),(.m .cache "need_held",qbs,223),(.m .cache "get",qdj,230),(.m .cache "make_room",D_Cache_make_room,237),(.m .cache "release",qb8,244),(.m .cache "write",qde,265),(.m .cache "peek",qc2,279),(.m .cache "poke",qc3,286),(.m .cache "known",qd9,291),(.m .cache "forget",D_Cache_forget,305),(.m .disk "__init__",qck,326),(.m .disk "need_power",qbt,333),(.m .disk "need_block",qb0,340),(.m .disk "read",qea,347),(.m .disk "write",qdp,354),(.m .disk "flush",D_Disk_flush,368),(.m .disk "after",qem,389),(.m .disk "copy",qfe,396)]
noncomputable def Pm (f:Fn):Option Def:=(fnTable.lookup f).map (·.1)
noncomputable def fAm (f:Fn):Nat:=((fnTable.lookup f).map (·.2)).getD 0
noncomputable def cAm:Cls→Nat| .buffer=>191| .cache=>308| .disk=>406
end Mine
end
noncomputable section
namespace Mine.H
noncomputable section
open PySem PySem.W PySem.W.X PyProof.Rows
noncomputable abbrev pw:Program:=PySem.Challenge.pw_up0077_01
noncomputable def st (i:Nat):Stmt:=pw.main.body.getD i (.Pass ⟨0,0,0,0⟩)
noncomputable def cb (i j:Nat):Stmt:=match st i with| .ClassDef _ _ _ body .. =>body.getD j (.Pass ⟨0,0,0,0⟩)|s=>s
noncomputable def fA:Stmt→Arguments| .FunctionDef _ a .. =>a|_=>⟨[],[],none,[],[],none,[]⟩
noncomputable def fB:Stmt→List Stmt| .FunctionDef _ _ b .. =>b|_=> []
noncomputable def fS:Stmt→Scope| .FunctionDef _ _ _ _ _ _ s .. =>s|_=>pw.main.scope
noncomputable abbrev N:=BT.node
noncomputable abbrev L:=BT.nil
noncomputable abbrev Ob:=Params→Obj
noncomputable def m0:Nat:=11
noncomputable def ann:Option Value:=(some (.ref 6))
noncomputable def hCode:Value:=(.ref 13)
noncomputable def qsg:Env:= {scope:=pw.main.scope,locals:=mainNs,globals:=mainNs,cells:= [],code:=hCode,frame:=some 14}
noncomputable def hq:Pos:=(Pos.mk 0 0 0 0)
noncomputable def hB:List Stmt:=behindTheImports pw
noncomputable def hC:Code:= .body hB qsg
noncomputable def jS (s:String) (n:Nat):Value:= .str (.ofString s) n
noncomputable def iN (n:Int):Value:= .int n 0
noncomputable def eN (P:Params) (s:String) (n:Nat) (v:Value):DictEntry:= .mk (PyData.keyHash P (.ofString s)) (jS s n) v
noncomputable def tU (xs:Array Value):Obj:= .mk (.type "tuple") none (Data.seq xs 0) #[]
noncomputable def fO (xs:Array Value):Obj:= .mk Value.none none (Data.fields xs) #[]
noncomputable def cO (xs:Array Value):Obj:= .mk (.type "code") none (Data.fields xs) #[]
noncomputable def fU (a b:String) (x:Stmt) (d m c:Value):Obj:= .mk (.type "function") none (Data.func (PySem.FuncData.mk (Str.ofString a) (Str.ofString b) (fA x) (PySem.FuncBody.stmts (fB x)) (fS x) 3 [] d Value.none Value.none m none c Value.none 0)) #[]
noncomputable def fR (a b:String) (x:Stmt):Obj:= .mk Value.none none (Data.func (PySem.FuncData.mk (Str.ofString a) (Str.ofString b) (fA x) (PySem.FuncBody.stmts (fB x)) (fS x) 0 [] Value.none Value.none Value.none Value.none none Value.none Value.none 0)) #[]
noncomputable abbrev F (o:Obj):BT:=N o L L
noncomputable def o11:Obj:=tU #[]
noncomputable def o12:Obj:=fO #[]
noncomputable def o13:Obj:=cO #[(jS "<module>" 182),(jS "<module>" 183),(jS "/claim/cut.py" 184),(iN 1),(iN 0),(iN 0),(iN 0),(iN 0),(.ref 11),(.bool false),(iN 181),(.ref 12),Value.none,Value.none,Value.none,Value.none,(iN 185),(iN 1),(jS "/claim/cut.py" 186)]
noncomputable def o14:Obj:=Obj.mk (.type "frame") none Data.plain #[(some (.ref 13)),(some (.ref 3)),(some (.ref 3)),none,(some (jS "__main__" 164)),none,(some (.ref 0))]
noncomputable def Ha:Params→Heap:=fun P=>⟨⟨[boot_o_0 P,boot_o_1 P,boot_o_2 P,boot_o_3 P,boot_o_4 P,boot_o_5 P,boot_o_6 P,boot_o_7 P,boot_o_8 P,boot_o_9 P,boot_o_10 P,o11,o12,o13,o14]⟩,(Life.mk [] [] [] 0 [] [] false #[] [] 0 false false false 0 [2000,10,10] false 0 true [] [] 0 false)⟩
noncomputable def Sa (w:World) (os:OsState):Shared:=⟨Ha w.params,(Array.mk []),(Drawn.mk 0 0 0 0),187,os⟩
noncomputable def Tb:Params→BT:=fun P=>(N (boot_o_0 P) (N (boot_o_1 P) (N (boot_o_3 P) (F (boot_o_7 P)) (F o11)) (N (boot_o_5 P) (F (boot_o_9 P)) (F o13))) (N (boot_o_2 P) (N (boot_o_4 P) (F (boot_o_8 P)) (F o12)) (N (boot_o_6 P) (F (boot_o_10 P)) (F o14))))
noncomputable def Sb (w:World) (os:OsState):SharedT:=⟨Tb w.params,15,(Life.mk [] [] [] 0 [] [] false #[] [] 0 false false false 0 [2000,10,10] false 0 true [] [] 0 false),(Array.mk []),(Drawn.mk 0 0 0 0),187,os⟩
theorem h_pre (w:World):(fun os=>topGo treeTable pw w m0 ann 12 ⟨boot_heap w.params,Array.mk [],boot_drawn,boot_toks,os⟩ (topStub pw))=fun os=>some (Sa w os,⟨denote treeTable hC,hC,(Pos.mk 0 0 0 0),[topFrame hq]⟩):=by kernel_rfl
theorem qvq (w:World):(fun os=>segRun treeTable pw w m0 ann 1 1 (Sa w os) (blockOf hB qsg hC (Pos.mk 0 0 0 0) [topFrame hq]))=fun os=>some (.next,(Sb w os).abs,hC,(Pos.mk 0 0 0 0)):=by kernel_rfl
noncomputable def o3_0:Ob:=fun P=>Obj.mk (.type "dict") none (Data.dict #[(eN P "__name__" 165 (jS "pipeboard.errors" 194)),(eN P "__doc__" 166 Value.none),(eN P "__package__" 167 Value.none),(eN P "__loader__" 168 (Value.builtin "__main__.__loader__#opaque")),(eN P "__spec__" 169 Value.none),(eN P "__annotations__" 170 (.ref 6)),(eN P "__builtins__" 171 (.ref 4)),(eN P "__file__" 173 (jS "/claim/cut.py" 172)),(eN P "__cached__" 174 Value.none),(eN P "_wall" 193 (.ref 21)),(eN P "BoardError" 223 (.ref 39)),(eN P "BadArgument" 239 (.ref 52)),(eN P "BadDisk" 255 (.ref 64))] 13) #[]
noncomputable def o12_0:Obj:=fO #[(iN 1),(iN 0),(.ref 20),(iN 5),(iN 0),(.ref 27),(iN 10),(iN 0),(.ref 48),(iN 12),(iN 0),(.ref 60)]
noncomputable def o17:Obj:=tU #[(jS "k" 190)]
noncomputable def o19:Obj:=fR "_wall" "_wall" (st 0)
noncomputable def o20:Obj:=cO #[(jS "_wall" 187),(jS "_wall" 188),(jS "/claim/cut.py" 189),(iN 1),(iN 1),(iN 0),(iN 0),(iN 3),(.ref 15),(.bool true),(iN 181),(.ref 16),Value.none,(.ref 17),(.ref 18),(.ref 19),(iN 191),(iN 1),(jS "/claim/cut.py" 192)]
noncomputable def o21:Obj:=fU "_wall" "_wall" (st 0) Value.none (jS "__main__" 164) (.ref 20)
noncomputable def o22:Obj:=tU #[(.type "ValueError")]
noncomputable def o23:Obj:=Obj.mk (.type "builtin_function_or_method") none (Data.fields #[(Value.builtin "type.__prepare__"),(.type "type")]) #[]
noncomputable def o24:Ob:=fun P=>Obj.mk (.type "dict") none (Data.dict #[(eN P "__module__" 203 (jS "pipeboard.errors" 194)),(eN P "__qualname__" 205 (jS "BoardError" 204)),(eN P "__firstlineno__" 207 (.int 5 206)),(eN P "__init__" 216 (.ref 36)),(eN P "__static_attributes__" 218 (.ref 37))] 5) #[]
noncomputable def o26:Obj:=fO #[(iN 7),(iN 4),(.ref 35)]
noncomputable def o27:Obj:=cO #[(jS "BoardError" 198),(jS "BoardError" 199),(jS "/claim/cut.py" 200),(iN 5),(iN 0),(iN 0),(iN 0),(iN 0),(.ref 25),(.bool false),(iN 181),(.ref 26),Value.none,Value.none,Value.none,Value.none,(iN 201),(iN 5),(jS "/claim/cut.py" 202)]
noncomputable def o28:Obj:=Obj.mk (.type "frame") none Data.plain #[(some (.ref 27)),(some (.ref 3)),(some (.ref 24)),none,(some (jS "pipeboard.errors" 194)),none,(some (.ref 0))]
noncomputable def o29:Obj:=tU #[(jS "" 208)]
noncomputable def o32:Obj:=tU #[(jS "self" 212),(jS "reason" 213)]
noncomputable def o34:Obj:=fR "__init__" "BoardError.__init__" (cb 2 0)
noncomputable def o35:Obj:=cO #[(jS "__init__" 209),(jS "BoardError.__init__" 210),(jS "/claim/cut.py" 211),(iN 7),(iN 2),(iN 0),(iN 0),(iN 3),(.ref 30),(.bool true),(iN 181),(.ref 31),Value.none,(.ref 32),(.ref 33),(.ref 34),(iN 214),(iN 7),(jS "/claim/cut.py" 215)]
noncomputable def o36:Obj:=fU "__init__" "BoardError.__init__" (cb 2 0) (.ref 29) (jS "pipeboard.errors" 194) (.ref 35)
noncomputable def o37:Obj:=tU #[(jS "reason" 217)]
noncomputable def o38:Ob:=fun P=>Obj.mk (.type "dict") none (Data.dict #[(eN P "__module__" 203 (jS "pipeboard.errors" 194)),(eN P "__firstlineno__" 207 (.int 5 206)),(eN P "__init__" 216 (.ref 36)),(eN P "__static_attributes__" 218 (.ref 37)),(eN P "__weakref__" 220 (.ref 40)),(eN P "__doc__" 221 Value.none)] 3) #[]
noncomputable def o39:Obj:=Obj.mk (.type "type") none (Data.cls (PySem.ClassData.mk (Str.ofString "BoardError") [(.type "ValueError")] [(.ref 39),(.type "ValueError"),(.type "Exception"),(.type "BaseException"),(.type "object")] 38 (Str.ofString "BoardError") true [] [(.ref 52),(.ref 64)] false none false)) #[(some (.ref 22)),none,(some (jS "BoardError" 196)),(some (jS "BoardError" 204)),(some (Value.builtin "ValueError.__new__")),(some (.bool true))]
noncomputable def o40:Obj:=Obj.mk (.type "getset_descriptor") none (Data.fields #[(jS "__weakref__" 219),(.ref 39),(Value.builtin "ExceptionGroup.__weakref__"),Value.none]) #[]
noncomputable def o41:Obj:=Obj.mk (.type "super") none (Data.fields #[(.ref 39),(.ref 39),(.ref 39)]) #[]
noncomputable def o42:Obj:=Obj.mk (.type "builtin_function_or_method") none (Data.fields #[(Value.builtin "object.__init_subclass__"),(.ref 39)]) #[]
noncomputable def o43:Obj:=tU #[(.ref 39)]
noncomputable def o45:Ob:=fun P=>Obj.mk (.type "dict") none (Data.dict #[(eN P "__module__" 231 (jS "pipeboard.errors" 194)),(eN P "__qualname__" 233 (jS "BadArgument" 232)),(eN P "__firstlineno__" 235 (.int 10 234)),(eN P "__static_attributes__" 236 (.ref 50))] 4) #[]
noncomputable def o48:Obj:=cO #[(jS "BadArgument" 226),(jS "BadArgument" 227),(jS "/claim/cut.py" 228),(iN 10),(iN 0),(iN 0),(iN 0),(iN 0),(.ref 46),(.bool false),(iN 181),(.ref 47),Value.none,Value.none,Value.none,Value.none,(iN 229),(iN 10),(jS "/claim/cut.py" 230)]
noncomputable def o49:Obj:=Obj.mk (.type "frame") none Data.plain #[(some (.ref 48)),(some (.ref 3)),(some (.ref 45)),none,(some (jS "pipeboard.errors" 194)),none,(some (.ref 0))]
noncomputable def o51:Ob:=fun P=>Obj.mk (.type "dict") none (Data.dict #[(eN P "__module__" 231 (jS "pipeboard.errors" 194)),(eN P "__firstlineno__" 235 (.int 10 234)),(eN P "__static_attributes__" 236 (.ref 50)),(eN P "__doc__" 237 Value.none)] 2) #[]
noncomputable def o52:Obj:=Obj.mk (.type "type") none (Data.cls (PySem.ClassData.mk (Str.ofString "BadArgument") [(.ref 39)] [(.ref 52),(.ref 39),(.type "ValueError"),(.type "Exception"),(.type "BaseException"),(.type "object")] 51 (Str.ofString "BadArgument") true [] [] false none false)) #[(some (.ref 43)),none,(some (jS "BadArgument" 224)),(some (jS "BadArgument" 232)),(some (Value.builtin "ValueError.__new__")),(some (.bool true))]
noncomputable def o53:Obj:=Obj.mk (.type "super") none (Data.fields #[(.ref 52),(.ref 52),(.ref 52)]) #[]
noncomputable def o54:Obj:=Obj.mk (.type "builtin_function_or_method") none (Data.fields #[(Value.builtin "object.__init_subclass__"),(.ref 52)]) #[]
noncomputable def o57:Ob:=fun P=>Obj.mk (.type "dict") none (Data.dict #[(eN P "__module__" 247 (jS "pipeboard.errors" 194)),(eN P "__qualname__" 249 (jS "BadDisk" 248)),(eN P "__firstlineno__" 251 (.int 12 250)),(eN P "__static_attributes__" 252 (.ref 62))] 4) #[]
noncomputable def o60:Obj:=cO #[(jS "BadDisk" 242),(jS "BadDisk" 243),(jS "/claim/cut.py" 244),(iN 12),(iN 0),(iN 0),(iN 0),(iN 0),(.ref 58),(.bool false),(iN 181),(.ref 59),Value.none,Value.none,Value.none,Value.none,(iN 245),(iN 12),(jS "/claim/cut.py" 246)]
noncomputable def o61:Obj:=Obj.mk (.type "frame") none Data.plain #[(some (.ref 60)),(some (.ref 3)),(some (.ref 57)),none,(some (jS "pipeboard.errors" 194)),none,(some (.ref 0))]
noncomputable def o63:Ob:=fun P=>Obj.mk (.type "dict") none (Data.dict #[(eN P "__module__" 247 (jS "pipeboard.errors" 194)),(eN P "__firstlineno__" 251 (.int 12 250)),(eN P "__static_attributes__" 252 (.ref 62)),(eN P "__doc__" 253 Value.none)] 2) #[]
noncomputable def o64:Obj:=Obj.mk (.type "type") none (Data.cls (PySem.ClassData.mk (Str.ofString "BadDisk") [(.ref 39)] [(.ref 64),(.ref 39),(.type "ValueError"),(.type "Exception"),(.type "BaseException"),(.type "object")] 63 (Str.ofString "BadDisk") true [] [] false none false)) #[(some (.ref 55)),none,(some (jS "BadDisk" 240)),(some (jS "BadDisk" 248)),(some (Value.builtin "ValueError.__new__")),(some (.bool true))]
noncomputable def o65:Obj:=Obj.mk (.type "super") none (Data.fields #[(.ref 64),(.ref 64),(.ref 64)]) #[]
noncomputable def o66:Obj:=Obj.mk (.type "builtin_function_or_method") none (Data.fields #[(Value.builtin "object.__init_subclass__"),(.ref 64)]) #[]
noncomputable def T0:Params→BT:=fun P=>(N (boot_o_0 P) (N (boot_o_1 P) (N (o3_0 P) (N (boot_o_7 P) (N o11 (N o12 (F (o63 P)) L) (F o12)) (N o23 (F o39) (F o43))) (N o11 (N o19 (F o35) (F (o51 P))) (N o27 (F o43) (F o12)))) (N (boot_o_5 P) (N (boot_o_9 P) (N o17 (N o11 (F o65) L) (F o49)) (N o11 (F o41) (F (o57 P)))) (N o13 (N o21 (F o37) (F o53)) (N o29 (F (o45 P)) (F o61))))) (N (boot_o_2 P) (N (boot_o_4 P) (N (boot_o_8 P) (N o12 (N o32 (F o64) L) (F o48)) (N (o24 P) (F o40) (F o23))) (N o12_0 (N o20 (F o36) (F o52)) (N o28 (F o23) (F o60)))) (N (boot_o_6 P) (N (boot_o_10 P) (N o11 (N o34 (F o66) L) (F o11)) (N o26 (F o42) (F o11))) (N o14 (N o22 (F (o38 P)) (F o54)) (N o11 (F o11) (F o11))))))
noncomputable def S0 (w:World) (os:OsState):SharedT:=⟨T0 w.params,67,(Life.mk [] [] [] 0 [] [] false #[] [] 0 false false false 0 [2000,10,10] false 0 true [] [] 0 false),(Array.mk []),(Drawn.mk 0 0 0 0),256,os⟩
noncomputable def hS0:List Stmt:=(hB.drop 0).take 5
theorem h_g0 (w:World):(fun os=>segRunT treeTable pw w m0 ann 1 685 (Sb w os) (piecesOf hS0 qsg hC (Pos.mk 0 0 0 0) [topFrame hq]))=fun os=>some (.next,S0 w os,hC,(Pos.mk 12 0 13 8)):=by kernel_rfl
noncomputable def o3_1:Ob:=fun P=>Obj.mk (.type "dict") none (Data.dict #[(eN P "__name__" 165 (jS "pipeboard.blocks" 297)),(eN P "__doc__" 166 Value.none),(eN P "__package__" 167 Value.none),(eN P "__loader__" 168 (Value.builtin "__main__.__loader__#opaque")),(eN P "__spec__" 169 Value.none),(eN P "__annotations__" 170 (.ref 6)),(eN P "__builtins__" 171 (.ref 4)),(eN P "__file__" 173 (jS "/claim/cut.py" 172)),(eN P "__cached__" 174 Value.none),(eN P "_wall" 193 (.ref 21)),(eN P "BoardError" 223 (.ref 39)),(eN P "BadArgument" 239 (.ref 52)),(eN P "BadDisk" 255 (.ref 64)),(eN P "NoRoom" 271 (.ref 76)),(eN P "Crash" 296 (.ref 95))] 15) #[]
noncomputable def o12_1:Obj:=fO #[(iN 1),(iN 0),(.ref 20),(iN 5),(iN 0),(.ref 27),(iN 10),(iN 0),(.ref 48),(iN 12),(iN 0),(.ref 60),(iN 14),(iN 0),(.ref 72),(iN 16),(iN 0),(.ref 84)]
noncomputable def qmu:Obj:=Obj.mk (.type "type") none (Data.cls (PySem.ClassData.mk (Str.ofString "BoardError") [(.type "ValueError")] [(.ref 39),(.type "ValueError"),(.type "Exception"),(.type "BaseException"),(.type "object")] 38 (Str.ofString "BoardError") true [] [(.ref 52),(.ref 64),(.ref 76),(.ref 95)] false none false)) #[(some (.ref 22)),none,(some (jS "BoardError" 196)),(some (jS "BoardError" 204)),(some (Value.builtin "ValueError.__new__")),(some (.bool true))]
noncomputable def o69:Ob:=fun P=>Obj.mk (.type "dict") none (Data.dict #[(eN P "__module__" 263 (jS "pipeboard.errors" 194)),(eN P "__qualname__" 265 (jS "NoRoom" 264)),(eN P "__firstlineno__" 267 (.int 14 266)),(eN P "__static_attributes__" 268 (.ref 74))] 4) #[]
noncomputable def o72:Obj:=cO #[(jS "NoRoom" 258),(jS "NoRoom" 259),(jS "/claim/cut.py" 260),(iN 14),(iN 0),(iN 0),(iN 0),(iN 0),(.ref 70),(.bool false),(iN 181),(.ref 71),Value.none,Value.none,Value.none,Value.none,(iN 261),(iN 14),(jS "/claim/cut.py" 262)]
noncomputable def o73:Obj:=Obj.mk (.type "frame") none Data.plain #[(some (.ref 72)),(some (.ref 3)),(some (.ref 69)),none,(some (jS "pipeboard.errors" 194)),none,(some (.ref 0))]
noncomputable def o75:Ob:=fun P=>Obj.mk (.type "dict") none (Data.dict #[(eN P "__module__" 263 (jS "pipeboard.errors" 194)),(eN P "__firstlineno__" 267 (.int 14 266)),(eN P "__static_attributes__" 268 (.ref 74)),(eN P "__doc__" 269 Value.none)] 2) #[]
noncomputable def o76:Obj:=Obj.mk (.type "type") none (Data.cls (PySem.ClassData.mk (Str.ofString "NoRoom") [(.ref 39)] [(.ref 76),(.ref 39),(.type "ValueError"),(.type "Exception"),(.type "BaseException"),(.type "object")] 75 (Str.ofString "NoRoom") true [] [] false none false)) #[(some (.ref 67)),none,(some (jS "NoRoom" 256)),(some (jS "NoRoom" 264)),(some (Value.builtin "ValueError.__new__")),(some (.bool true))]
noncomputable def o77:Obj:=Obj.mk (.type "super") none (Data.fields #[(.ref 76),(.ref 76),(.ref 76)]) #[]
noncomputable def o78:Obj:=Obj.mk (.type "builtin_function_or_method") none (Data.fields #[(Value.builtin "object.__init_subclass__"),(.ref 76)]) #[]
noncomputable def o81:Ob:=fun P=>Obj.mk (.type "dict") none (Data.dict #[(eN P "__module__" 279 (jS "pipeboard.errors" 194)),(eN P "__qualname__" 281 (jS "Crash" 280)),(eN P "__firstlineno__" 283 (.int 16 282)),(eN P "__init__" 291 (.ref 92)),(eN P "__static_attributes__" 293 (.ref 93))] 5) #[]
noncomputable def o83:Obj:=fO #[(iN 18),(iN 4),(.ref 91)]
noncomputable def o84:Obj:=cO #[(jS "Crash" 274),(jS "Crash" 275),(jS "/claim/cut.py" 276),(iN 16),(iN 0),(iN 0),(iN 0),(iN 0),(.ref 82),(.bool false),(iN 181),(.ref 83),Value.none,Value.none,Value.none,Value.none,(iN 277),(iN 16),(jS "/claim/cut.py" 278)]
noncomputable def o85:Obj:=Obj.mk (.type "frame") none Data.plain #[(some (.ref 84)),(some (.ref 3)),(some (.ref 81)),none,(some (jS "pipeboard.errors" 194)),none,(some (.ref 0))]
noncomputable def o88:Obj:=tU #[(jS "self" 287),(jS "writes" 288)]
noncomputable def o90:Obj:=fR "__init__" "Crash.__init__" (cb 6 0)
noncomputable def o91:Obj:=cO #[(jS "__init__" 284),(jS "Crash.__init__" 285),(jS "/claim/cut.py" 286),(iN 18),(iN 2),(iN 0),(iN 0),(iN 3),(.ref 86),(.bool true),(iN 181),(.ref 87),Value.none,(.ref 88),(.ref 89),(.ref 90),(iN 289),(iN 18),(jS "/claim/cut.py" 290)]
noncomputable def o92:Obj:=fU "__init__" "Crash.__init__" (cb 6 0) Value.none (jS "pipeboard.errors" 194) (.ref 91)
noncomputable def o93:Obj:=tU #[(jS "writes" 292)]
noncomputable def o94:Ob:=fun P=>Obj.mk (.type "dict") none (Data.dict #[(eN P "__module__" 279 (jS "pipeboard.errors" 194)),(eN P "__firstlineno__" 283 (.int 16 282)),(eN P "__init__" 291 (.ref 92)),(eN P "__static_attributes__" 293 (.ref 93)),(eN P "__doc__" 294 Value.none)] 2) #[]
noncomputable def o95:Obj:=Obj.mk (.type "type") none (Data.cls (PySem.ClassData.mk (Str.ofString "Crash") [(.ref 39)] [(.ref 95),(.ref 39),(.type "ValueError"),(.type "Exception"),(.type "BaseException"),(.type "object")] 94 (Str.ofString "Crash") true [] [] false none false)) #[(some (.ref 79)),none,(some (jS "Crash" 272)),(some (jS "Crash" 280)),(some (Value.builtin "ValueError.__new__")),(some (.bool true))]
noncomputable def o96:Obj:=Obj.mk (.type "super") none (Data.fields #[(.ref 95),(.ref 95),(.ref 95)]) #[]
noncomputable def o97:Obj:=Obj.mk (.type "builtin_function_or_method") none (Data.fields #[(Value.builtin "object.__init_subclass__"),(.ref 95)]) #[]
noncomputable def T1:Params→BT:=fun P=>(N (boot_o_0 P) (N (boot_o_1 P) (N (o3_1 P) (N (boot_o_7 P) (N o11 (N o12 (F (o63 P)) (F o95)) (N o12 (F o43) L)) (N o23 (N qmu (F o12) L) (N o43 (F o12) L))) (N o11 (N o19 (N o35 (F o43) L) (N (o51 P) (F o83) L)) (N o27 (N o43 (F (o75 P)) L) (N o12 (F o91) L)))) (N (boot_o_5 P) (N (boot_o_9 P) (N o17 (N o11 (F o65) (F o97)) (N o49 (F (o81 P)) L)) (N o11 (N o41 (F o73) L) (N (o57 P) (F o11) L))) (N o13 (N o21 (N o37 (F (o69 P)) L) (N o53 (F o85) L)) (N o29 (N (o45 P) (F o77) L) (N o61 (F o93) L))))) (N (boot_o_2 P) (N (boot_o_4 P) (N (boot_o_8 P) (N o12 (N o32 (F o64) (F o96)) (N o48 (F o23) L)) (N (o24 P) (N o40 (F o72) L) (N o23 (F o88) L))) (N o12_1 (N o20 (N o36 (F o23) L) (N o52 (F o84) L)) (N o28 (N o23 (F o76) L) (N o60 (F o92) L)))) (N (boot_o_6 P) (N (boot_o_10 P) (N o11 (N o34 (F o66) L) (N o11 (F o11) L)) (N o26 (N o42 (F o11) L) (N o11 (F o90) L))) (N o14 (N o22 (N (o38 P) (F o11) L) (N o54 (F o11) L)) (N o11 (N o11 (F o78) L) (N o11 (F (o94 P)) L))))))
noncomputable def S1 (w:World) (os:OsState):SharedT:=⟨T1 w.params,98,(Life.mk [] [] [] 0 [] [] false #[] [] 0 false false false 0 [2000,10,10] false 0 true [] [] 0 false),(Array.mk []),(Drawn.mk 0 0 0 0),299,os⟩
noncomputable def hS1:List Stmt:=(hB.drop 5).take 3
theorem h_g1 (w:World):(fun os=>segRunT treeTable pw w m0 ann 1 468 (S0 w os) (piecesOf hS1 qsg hC (Pos.mk 12 0 13 8) [topFrame hq]))=fun os=>some (.next,S1 w os,hC,(Pos.mk 21 0 21 8)):=by kernel_rfl
noncomputable def o3_2:Ob:=fun P=>Obj.mk (.type "dict") none (Data.dict #[(eN P "__name__" 165 (jS "pipeboard.blocks" 297)),(eN P "__doc__" 166 Value.none),(eN P "__package__" 167 Value.none),(eN P "__loader__" 168 (Value.builtin "__main__.__loader__#opaque")),(eN P "__spec__" 169 Value.none),(eN P "__annotations__" 170 (.ref 6)),(eN P "__builtins__" 171 (.ref 4)),(eN P "__file__" 173 (jS "/claim/cut.py" 172)),(eN P "__cached__" 174 Value.none),(eN P "_wall" 193 (.ref 21)),(eN P "BoardError" 223 (.ref 39)),(eN P "BadArgument" 239 (.ref 52)),(eN P "BadDisk" 255 (.ref 64)),(eN P "NoRoom" 271 (.ref 76)),(eN P "Crash" 296 (.ref 95)),(eN P "Buffer" 423 (.ref 191))] 16) #[]
noncomputable def o12_2:Obj:=fO #[(iN 1),(iN 0),(.ref 20),(iN 5),(iN 0),(.ref 27),(iN 10),(iN 0),(.ref 48),(iN 12),(iN 0),(.ref 60),(iN 14),(iN 0),(.ref 72),(iN 16),(iN 0),(.ref 84),(iN 22),(iN 0),(.ref 103)]
noncomputable def qwd:Ob:=fun P=>Obj.mk (.type "dict") none (Data.dict #[(eN P "__module__" 306 (jS "pipeboard.blocks" 297)),(eN P "__qualname__" 308 (jS "Buffer" 307)),(eN P "__firstlineno__" 310 (.int 22 309)),(eN P "__init__" 319 (.ref 111)),(eN P "is_free" 326 (.ref 118)),(eN P "octets" 333 (.ref 125)),(eN P "need_part" 342 (.ref 132)),(eN P "take" 351 (.ref 139)),(eN P "put" 360 (.ref 146)),(eN P "fill" 368 (.ref 153)),(eN P "clear" 375 (.ref 160)),(eN P "little" 384 (.ref 167)),(eN P "put_little" 394 (.ref 174)),(eN P "bit" 402 (.ref 181)),(eN P "put_bit" 411 (.ref 188)),(eN P "__static_attributes__" 416 (.ref 189))] 16) #[]
noncomputable def qwe:Obj:=fO #[(iN 24),(iN 4),(.ref 110),(iN 30),(iN 4),(.ref 117),(iN 33),(iN 4),(.ref 124),(iN 36),(iN 4),(.ref 131),(iN 40),(iN 4),(.ref 138),(iN 43),(iN 4),(.ref 145),(iN 47),(iN 4),(.ref 152),(iN 52),(iN 4),(.ref 159),(iN 55),(iN 4),(.ref 166),(iN 58),(iN 4),(.ref 173),(iN 61),(iN 4),(.ref 180),(iN 64),(iN 4),(.ref 187)]
noncomputable def qwf:Obj:=cO #[(jS "Buffer" 301),(jS "Buffer" 302),(jS "/claim/cut.py" 303),(iN 22),(iN 0),(iN 0),(iN 0),(iN 0),(.ref 101),(.bool false),(iN 181),(.ref 102),Value.none,Value.none,Value.none,Value.none,(iN 304),(iN 22),(jS "/claim/cut.py" 305)]
noncomputable def qwg:Obj:=Obj.mk (.type "frame") none Data.plain #[(some (.ref 103)),(some (.ref 3)),(some (.ref 100)),none,(some (jS "pipeboard.blocks" 297)),none,(some (.ref 0))]
noncomputable def qwh:Obj:=tU #[(jS "self" 314),(jS "number" 315),(jS "octets" 316)]
noncomputable def qwi:Obj:=fR "__init__" "Buffer.__init__" (cb 8 0)
noncomputable def qwj:Obj:=cO #[(jS "__init__" 311),(jS "Buffer.__init__" 312),(jS "/claim/cut.py" 313),(iN 24),(iN 3),(iN 0),(iN 0),(iN 3),(.ref 105),(.bool true),(iN 181),(.ref 106),Value.none,(.ref 107),(.ref 108),(.ref 109),(iN 317),(iN 24),(jS "/claim/cut.py" 318)]
noncomputable def qwk:Obj:=fU "__init__" "Buffer.__init__" (cb 8 0) Value.none (jS "pipeboard.blocks" 297) (.ref 110)
noncomputable def qwl:Obj:=tU #[(jS "self" 323)]
noncomputable def qwm:Obj:=fR "is_free" "Buffer.is_free" (cb 8 1)
noncomputable def qwn:Obj:=cO #[(jS "is_free" 320),(jS "Buffer.is_free" 321),(jS "/claim/cut.py" 322),(iN 30),(iN 1),(iN 0),(iN 0),(iN 3),(.ref 112),(.bool true),(iN 181),(.ref 113),Value.none,(.ref 114),(.ref 115),(.ref 116),(iN 324),(iN 30),(jS "/claim/cut.py" 325)]
noncomputable def qwo:Obj:=fU "is_free" "Buffer.is_free" (cb 8 1) Value.none (jS "pipeboard.blocks" 297) (.ref 117)
noncomputable def qwp:Obj:=tU #[(jS "self" 330)]
noncomputable def qwq:Obj:=fR "octets" "Buffer.octets" (cb 8 2)
noncomputable def qwr:Obj:=cO #[(jS "octets" 327),(jS "Buffer.octets" 328),(jS "/claim/cut.py" 329),(iN 33),(iN 1),(iN 0),(iN 0),(iN 3),(.ref 119),(.bool true),(iN 181),(.ref 120),Value.none,(.ref 121),(.ref 122),(.ref 123),(iN 331),(iN 33),(jS "/claim/cut.py" 332)]
noncomputable def qws:Obj:=fU "octets" "Buffer.octets" (cb 8 2) Value.none (jS "pipeboard.blocks" 297) (.ref 124)
noncomputable def qwt:Obj:=tU #[(jS "self" 337),(jS "place" 338),(jS "count" 339)]
noncomputable def qwu:Obj:=fR "need_part" "Buffer.need_part" (cb 8 3)
noncomputable def qwv:Obj:=cO #[(jS "need_part" 334),(jS "Buffer.need_part" 335),(jS "/claim/cut.py" 336),(iN 36),(iN 3),(iN 0),(iN 0),(iN 3),(.ref 126),(.bool true),(iN 181),(.ref 127),Value.none,(.ref 128),(.ref 129),(.ref 130),(iN 340),(iN 36),(jS "/claim/cut.py" 341)]
noncomputable def qww:Obj:=fU "need_part" "Buffer.need_part" (cb 8 3) Value.none (jS "pipeboard.blocks" 297) (.ref 131)
noncomputable def qwx:Obj:=tU #[(jS "self" 346),(jS "place" 347),(jS "count" 348)]
noncomputable def qwy:Obj:=fR "take" "Buffer.take" (cb 8 4)
noncomputable def qwz:Obj:=cO #[(jS "take" 343),(jS "Buffer.take" 344),(jS "/claim/cut.py" 345),(iN 40),(iN 3),(iN 0),(iN 0),(iN 3),(.ref 133),(.bool true),(iN 181),(.ref 134),Value.none,(.ref 135),(.ref 136),(.ref 137),(iN 349),(iN 40),(jS "/claim/cut.py" 350)]
noncomputable def qw0:Obj:=fU "take" "Buffer.take" (cb 8 4) Value.none (jS "pipeboard.blocks" 297) (.ref 138)
noncomputable def qw1:Obj:=tU #[(jS "self" 355),(jS "place" 356),(jS "octets" 357)]
noncomputable def qw2:Obj:=fR "put" "Buffer.put" (cb 8 5)
noncomputable def qw3:Obj:=cO #[(jS "put" 352),(jS "Buffer.put" 353),(jS "/claim/cut.py" 354),(iN 43),(iN 3),(iN 0),(iN 0),(iN 3),(.ref 140),(.bool true),(iN 181),(.ref 141),Value.none,(.ref 142),(.ref 143),(.ref 144),(iN 358),(iN 43),(jS "/claim/cut.py" 359)]
noncomputable def qw4:Obj:=fU "put" "Buffer.put" (cb 8 5) Value.none (jS "pipeboard.blocks" 297) (.ref 145)
noncomputable def qw5:Obj:=tU #[(jS "self" 364),(jS "octets" 365)]
noncomputable def qw6:Obj:=fR "fill" "Buffer.fill" (cb 8 6)
noncomputable def qw7:Obj:=cO #[(jS "fill" 361),(jS "Buffer.fill" 362),(jS "/claim/cut.py" 363),(iN 47),(iN 2),(iN 0),(iN 0),(iN 3),(.ref 147),(.bool true),(iN 181),(.ref 148),Value.none,(.ref 149),(.ref 150),(.ref 151),(iN 366),(iN 47),(jS "/claim/cut.py" 367)]
noncomputable def qw8:Obj:=fU "fill" "Buffer.fill" (cb 8 6) Value.none (jS "pipeboard.blocks" 297) (.ref 152)
noncomputable def qw9:Obj:=tU #[(jS "self" 372)]
noncomputable def qxa:Obj:=fR "clear" "Buffer.clear" (cb 8 7)
noncomputable def qxb:Obj:=cO #[(jS "clear" 369),(jS "Buffer.clear" 370),(jS "/claim/cut.py" 371),(iN 52),(iN 1),(iN 0),(iN 0),(iN 3),(.ref 154),(.bool true),(iN 181),(.ref 155),Value.none,(.ref 156),(.ref 157),(.ref 158),(iN 373),(iN 52),(jS "/claim/cut.py" 374)]
noncomputable def qxc:Obj:=fU "clear" "Buffer.clear" (cb 8 7) Value.none (jS "pipeboard.blocks" 297) (.ref 159)
noncomputable def qxd:Obj:=tU #[(jS "self" 379),(jS "place" 380),(jS "count" 381)]
noncomputable def qxe:Obj:=Obj.mk Value.none none (Data.func (PySem.FuncData.mk (Str.ofString "little") (Str.ofString "Buffer.little") (fA (cb 8 8)) (PySem.FuncBody.stmts (fB (cb 8 8))) (fS (cb 8 4)) 0 [] Value.none Value.none Value.none Value.none none Value.none Value.none 0)) #[]
noncomputable def qxf:Obj:=cO #[(jS "little" 376),(jS "Buffer.little" 377),(jS "/claim/cut.py" 378),(iN 55),(iN 3),(iN 0),(iN 0),(iN 3),(.ref 161),(.bool true),(iN 181),(.ref 162),Value.none,(.ref 163),(.ref 164),(.ref 165),(iN 382),(iN 55),(jS "/claim/cut.py" 383)]
noncomputable def qxg:Obj:=Obj.mk (.type "function") none (Data.func (PySem.FuncData.mk (Str.ofString "little") (Str.ofString "Buffer.little") (fA (cb 8 8)) (PySem.FuncBody.stmts (fB (cb 8 8))) (fS (cb 8 4)) 3 [] Value.none Value.none Value.none (jS "pipeboard.blocks" 297) none (.ref 166) Value.none 0)) #[]
noncomputable def qxh:Obj:=tU #[(jS "self" 388),(jS "place" 389),(jS "count" 390),(jS "value" 391)]
noncomputable def qxi:Obj:=fR "put_little" "Buffer.put_little" (cb 8 9)
noncomputable def qxj:Obj:=cO #[(jS "put_little" 385),(jS "Buffer.put_little" 386),(jS "/claim/cut.py" 387),(iN 58),(iN 4),(iN 0),(iN 0),(iN 3),(.ref 168),(.bool true),(iN 181),(.ref 169),Value.none,(.ref 170),(.ref 171),(.ref 172),(iN 392),(iN 58),(jS "/claim/cut.py" 393)]
noncomputable def qxk:Obj:=fU "put_little" "Buffer.put_little" (cb 8 9) Value.none (jS "pipeboard.blocks" 297) (.ref 173)
noncomputable def qxl:Obj:=tU #[(jS "self" 398),(jS "place" 399)]
noncomputable def qxm:Obj:=fR "bit" "Buffer.bit" (cb 8 10)
noncomputable def qxn:Obj:=cO #[(jS "bit" 395),(jS "Buffer.bit" 396),(jS "/claim/cut.py" 397),(iN 61),(iN 2),(iN 0),(iN 0),(iN 3),(.ref 175),(.bool true),(iN 181),(.ref 176),Value.none,(.ref 177),(.ref 178),(.ref 179),(iN 400),(iN 61),(jS "/claim/cut.py" 401)]
noncomputable def qxo:Obj:=fU "bit" "Buffer.bit" (cb 8 10) Value.none (jS "pipeboard.blocks" 297) (.ref 180)
noncomputable def qxp:Obj:=tU #[(jS "self" 406),(jS "place" 407),(jS "value" 408)]
noncomputable def qxq:Obj:=fR "put_bit" "Buffer.put_bit" (cb 8 11)
noncomputable def qxr:Obj:=cO #[(jS "put_bit" 403),(jS "Buffer.put_bit" 404),(jS "/claim/cut.py" 405),(iN 64),(iN 3),(iN 0),(iN 0),(iN 3),(.ref 182),(.bool true),(iN 181),(.ref 183),Value.none,(.ref 184),(.ref 185),(.ref 186),(iN 409),(iN 64),(jS "/claim/cut.py" 410)]
noncomputable def qxs:Obj:=fU "put_bit" "Buffer.put_bit" (cb 8 11) Value.none (jS "pipeboard.blocks" 297) (.ref 187)
noncomputable def qxt:Obj:=tU #[(jS "data" 412),(jS "holders" 413),(jS "number" 414),(jS "pins" 415)]
noncomputable def qxu:Ob:=fun P=>Obj.mk (.type "dict") none (Data.dict #[(eN P "__module__" 306 (jS "pipeboard.blocks" 297)),(eN P "__firstlineno__" 310 (.int 22 309)),(eN P "__init__" 319 (.ref 111)),(eN P "is_free" 326 (.ref 118)),(eN P "octets" 333 (.ref 125)),(eN P "need_part" 342 (.ref 132)),(eN P "take" 351 (.ref 139)),(eN P "put" 360 (.ref 146)),(eN P "fill" 368 (.ref 153)),(eN P "clear" 375 (.ref 160)),(eN P "little" 384 (.ref 167)),(eN P "put_little" 394 (.ref 174)),(eN P "bit" 402 (.ref 181)),(eN P "put_bit" 411 (.ref 188)),(eN P "__static_attributes__" 416 (.ref 189)),(eN P "__dict__" 418 (.ref 192)),(eN P "__weakref__" 420 (.ref 193)),(eN P "__doc__" 421 Value.none)] 4) #[]
noncomputable def qxv:Obj:=Obj.mk (.type "type") none (Data.cls (PySem.ClassData.mk (Str.ofString "Buffer") [(.type "object")] [(.ref 191),(.type "object")] 190 (Str.ofString "Buffer") true [] [] false none false)) #[none,none,(some (jS "Buffer" 299)),(some (jS "Buffer" 307)),(some (Value.builtin "object.__new__")),(some (.bool true))]
noncomputable def qxw:Obj:=Obj.mk (.type "getset_descriptor") none (Data.fields #[(jS "__dict__" 417),(.ref 191),(Value.builtin "function.__dict__"),(Value.builtin "function.__dict__#set")]) #[]
noncomputable def qxx:Obj:=Obj.mk (.type "getset_descriptor") none (Data.fields #[(jS "__weakref__" 419),(.ref 191),(Value.builtin "ExceptionGroup.__weakref__"),Value.none]) #[]
noncomputable def qxy:Obj:=Obj.mk (.type "super") none (Data.fields #[(.ref 191),(.ref 191),(.ref 191)]) #[]
noncomputable def qxz:Obj:=Obj.mk (.type "builtin_function_or_method") none (Data.fields #[(Value.builtin "object.__init_subclass__"),(.ref 191)]) #[]
noncomputable def T2:Params→BT:=fun P=>(N (boot_o_0 P) (N (boot_o_1 P) (N (o3_2 P) (N (boot_o_7 P) (N o11 (N o12 (N (o63 P) (F o12) (F qxv)) (N o95 (F qxb) L)) (N o12 (N o43 (F o11) L) (N qwk (F o11) L))) (N o23 (N qmu (N o12 (F qwx) L) (N qwf (F qxg) L)) (N o43 (N o12 (F qw6) L) (N o11 (F o12) L)))) (N o11 (N o19 (N o35 (N o43 (F qwv) (F qxz)) (N o23 (F qxd) L)) (N (o51 P) (N o83 (F o11) L) (N o11 (F qxm) L))) (N o27 (N o43 (N (o75 P) (F qw0) L) (N qwh (F o11) L)) (N o12 (N o91 (F o12) L) (N qwq (F qxr) L))))) (N (boot_o_5 P) (N (boot_o_9 P) (N o17 (N o11 (N o65 (F o11) (F qxx)) (N o97 (F o11) L)) (N o49 (N (o81 P) (F qw3) L) (N o12 (F qxl) L))) (N o11 (N o41 (N o73 (F qwy) L) (N o11 (F o12) L)) (N (o57 P) (N o11 (F qw8) L) (N qwp (F o11) L)))) (N o13 (N o21 (N o37 (N (o69 P) (F o11) L) (N o11 (F qxe) L)) (N o53 (N o85 (F qw5) L) (N qwn (F qxo) L))) (N o29 (N (o45 P) (N o77 (F o12) L) (N qwi (F qxj) L)) (N o61 (N o93 (F o11) L) (N qws (F qxt) L)))))) (N (boot_o_2 P) (N (boot_o_4 P) (N (boot_o_8 P) (N o12 (N o32 (N o64 (F qwt) (F qxw)) (N o96 (F qxc) L)) (N o48 (N o23 (F qw2) L) (N o11 (F o12) L))) (N (o24 P) (N o40 (N o72 (F o11) L) (N qwg (F o11) L)) (N o23 (N o88 (F qw7) L) (N o12 (F qxp) L)))) (N o12_2 (N o20 (N o36 (N o23 (F qww) L) (N (qwd P) (F o11) L)) (N o52 (N o84 (F o12) L) (N qwm (F qxn) L))) (N o28 (N o23 (N o76 (F o11) L) (N o11 (F qxi) L)) (N o60 (N o92 (F qw9) L) (N qwr (F qxs) L))))) (N (boot_o_6 P) (N (boot_o_10 P) (N o11 (N o34 (N o66 (F qwu) (F qxy)) (N o11 (F o12) L)) (N o11 (N o11 (F qw4) L) (N qwl (F o11) L))) (N o26 (N o42 (N o11 (F qwz) L) (N o12 (F qxh) L)) (N o11 (N o90 (F o11) L) (N o11 (F qxq) L)))) (N o14 (N o22 (N (o38 P) (N o11 (F o12) L) (N qwe (F qxf) L)) (N o54 (N o11 (F o11) L) (N qwo (F o11) L))) (N o11 (N o11 (N o78 (F qw1) L) (N qwj (F qxk) L)) (N o11 (N (o94 P) (F qxa) L) (N o11 (F (qxu P)) L)))))))
noncomputable def S2 (w:World) (os:OsState):SharedT:=⟨T2 w.params,196,(Life.mk [] [] [] 0 [] [] false #[] [] 0 false false false 0 [2000,10,10] false 0 true [] [] 0 false),(Array.mk []),(Drawn.mk 0 0 0 0),424,os⟩
noncomputable def hS2:List Stmt:=(hB.drop 8).take 1
theorem h_g2 (w:World):(fun os=>segRunT treeTable pw w m0 ann 1 583 (S1 w os) (piecesOf hS2 qsg hC (Pos.mk 21 0 21 8) [topFrame hq]))=fun os=>some (.next,S2 w os,hC,(Pos.mk 22 0 65 16)):=by kernel_rfl
noncomputable def o3_3:Ob:=fun P=>Obj.mk (.type "dict") none (Data.dict #[(eN P "__name__" 165 (jS "pipeboard.devices" 575)),(eN P "__doc__" 166 Value.none),(eN P "__package__" 167 Value.none),(eN P "__loader__" 168 (Value.builtin "__main__.__loader__#opaque")),(eN P "__spec__" 169 Value.none),(eN P "__annotations__" 170 (.ref 6)),(eN P "__builtins__" 171 (.ref 4)),(eN P "__file__" 173 (jS "/claim/cut.py" 172)),(eN P "__cached__" 174 Value.none),(eN P "_wall" 193 (.ref 21)),(eN P "BoardError" 223 (.ref 39)),(eN P "BadArgument" 239 (.ref 52)),(eN P "BadDisk" 255 (.ref 64)),(eN P "NoRoom" 271 (.ref 76)),(eN P "Crash" 296 (.ref 95)),(eN P "Buffer" 423 (.ref 191)),(eN P "Cache" 574 (.ref 308))] 17) #[]
noncomputable def o12_3:Obj:=fO #[(iN 1),(iN 0),(.ref 20),(iN 5),(iN 0),(.ref 27),(iN 10),(iN 0),(.ref 48),(iN 12),(iN 0),(.ref 60),(iN 14),(iN 0),(.ref 72),(iN 16),(iN 0),(.ref 84),(iN 22),(iN 0),(.ref 103),(iN 66),(iN 0),(.ref 201)]
noncomputable def o198:Ob:=fun P=>Obj.mk (.type "dict") none (Data.dict #[(eN P "__module__" 431 (jS "pipeboard.blocks" 297)),(eN P "__qualname__" 433 (jS "Cache" 432)),(eN P "__firstlineno__" 435 (.int 66 434)),(eN P "__init__" 444 (.ref 209)),(eN P "need_block" 452 (.ref 216)),(eN P "need_held" 460 (.ref 223)),(eN P "get" 469 (.ref 230)),(eN P "make_room" 478 (.ref 237)),(eN P "release" 486 (.ref 244)),(eN P "pin" 494 (.ref 251)),(eN P "unpin" 502 (.ref 258)),(eN P "write" 510 (.ref 265)),(eN P "flush" 517 (.ref 272)),(eN P "peek" 527 (.ref 279)),(eN P "poke" 537 (.ref 286)),(eN P "known" 543 (.ref 291)),(eN P "free_count" 550 (.ref 298)),(eN P "forget" 558 (.ref 305)),(eN P "__static_attributes__" 567 (.ref 306))] 19) #[]
noncomputable def o200:Obj:=fO #[(iN 68),(iN 4),(.ref 208),(iN 80),(iN 4),(.ref 215),(iN 84),(iN 4),(.ref 222),(iN 88),(iN 4),(.ref 229),(iN 102),(iN 4),(.ref 236),(iN 112),(iN 4),(.ref 243),(iN 119),(iN 4),(.ref 250),(iN 122),(iN 4),(.ref 257),(iN 125),(iN 4),(.ref 264),(iN 130),(iN 4),(.ref 271),(iN 133),(iN 4),(.ref 278),(iN 139),(iN 4),(.ref 285),(iN 148),(iN 4),(.ref 290),(iN 151),(iN 4),(.ref 297),(iN 154),(iN 4),(.ref 304)]
noncomputable def o201:Obj:=cO #[(jS "Cache" 426),(jS "Cache" 427),(jS "/claim/cut.py" 428),(iN 66),(iN 0),(iN 0),(iN 0),(iN 0),(.ref 199),(.bool false),(iN 181),(.ref 200),Value.none,Value.none,Value.none,Value.none,(iN 429),(iN 66),(jS "/claim/cut.py" 430)]
noncomputable def o202:Obj:=Obj.mk (.type "frame") none Data.plain #[(some (.ref 201)),(some (.ref 3)),(some (.ref 198)),none,(some (jS "pipeboard.blocks" 297)),none,(some (.ref 0))]
noncomputable def o205:Obj:=tU #[(jS "self" 439),(jS "disk" 440),(jS "most" 441)]
noncomputable def o207:Obj:=fR "__init__" "Cache.__init__" (cb 9 0)
noncomputable def o208:Obj:=cO #[(jS "__init__" 436),(jS "Cache.__init__" 437),(jS "/claim/cut.py" 438),(iN 68),(iN 3),(iN 0),(iN 0),(iN 3),(.ref 203),(.bool true),(iN 181),(.ref 204),Value.none,(.ref 205),(.ref 206),(.ref 207),(iN 442),(iN 68),(jS "/claim/cut.py" 443)]
noncomputable def o209:Obj:=fU "__init__" "Cache.__init__" (cb 9 0) Value.none (jS "pipeboard.blocks" 297) (.ref 208)
noncomputable def o212:Obj:=tU #[(jS "self" 448),(jS "number" 449)]
noncomputable def o214:Obj:=fR "need_block" "Cache.need_block" (cb 9 1)
noncomputable def o215:Obj:=cO #[(jS "need_block" 445),(jS "Cache.need_block" 446),(jS "/claim/cut.py" 447),(iN 80),(iN 2),(iN 0),(iN 0),(iN 3),(.ref 210),(.bool true),(iN 181),(.ref 211),Value.none,(.ref 212),(.ref 213),(.ref 214),(iN 450),(iN 80),(jS "/claim/cut.py" 451)]
noncomputable def o216:Obj:=fU "need_block" "Cache.need_block" (cb 9 1) Value.none (jS "pipeboard.blocks" 297) (.ref 215)
noncomputable def o219:Obj:=tU #[(jS "self" 456),(jS "buffer" 457)]
noncomputable def o221:Obj:=fR "need_held" "Cache.need_held" (cb 9 2)
noncomputable def o222:Obj:=cO #[(jS "need_held" 453),(jS "Cache.need_held" 454),(jS "/claim/cut.py" 455),(iN 84),(iN 2),(iN 0),(iN 0),(iN 3),(.ref 217),(.bool true),(iN 181),(.ref 218),Value.none,(.ref 219),(.ref 220),(.ref 221),(iN 458),(iN 84),(jS "/claim/cut.py" 459)]
noncomputable def o223:Obj:=fU "need_held" "Cache.need_held" (cb 9 2) Value.none (jS "pipeboard.blocks" 297) (.ref 222)
noncomputable def o226:Obj:=tU #[(jS "self" 464),(jS "number" 465),(jS "found" 466)]
noncomputable def o228:Obj:=fR "get" "Cache.get" (cb 9 3)
noncomputable def o229:Obj:=cO #[(jS "get" 461),(jS "Cache.get" 462),(jS "/claim/cut.py" 463),(iN 88),(iN 2),(iN 0),(iN 0),(iN 3),(.ref 224),(.bool true),(iN 181),(.ref 225),Value.none,(.ref 226),(.ref 227),(.ref 228),(iN 467),(iN 88),(jS "/claim/cut.py" 468)]
noncomputable def o230:Obj:=fU "get" "Cache.get" (cb 9 3) Value.none (jS "pipeboard.blocks" 297) (.ref 229)
noncomputable def o233:Obj:=tU #[(jS "self" 473),(jS "place" 474),(jS "buffer" 475)]
noncomputable def o235:Obj:=fR "make_room" "Cache.make_room" (cb 9 4)
noncomputable def o236:Obj:=cO #[(jS "make_room" 470),(jS "Cache.make_room" 471),(jS "/claim/cut.py" 472),(iN 102),(iN 1),(iN 0),(iN 0),(iN 3),(.ref 231),(.bool true),(iN 181),(.ref 232),Value.none,(.ref 233),(.ref 234),(.ref 235),(iN 476),(iN 102),(jS "/claim/cut.py" 477)]
noncomputable def o237:Obj:=fU "make_room" "Cache.make_room" (cb 9 4) Value.none (jS "pipeboard.blocks" 297) (.ref 236)
noncomputable def o240:Obj:=tU #[(jS "self" 482),(jS "buffer" 483)]
noncomputable def o242:Obj:=fR "release" "Cache.release" (cb 9 5)
noncomputable def o243:Obj:=cO #[(jS "release" 479),(jS "Cache.release" 480),(jS "/claim/cut.py" 481),(iN 112),(iN 2),(iN 0),(iN 0),(iN 3),(.ref 238),(.bool true),(iN 181),(.ref 239),Value.none,(.ref 240),(.ref 241),(.ref 242),(iN 484),(iN 112),(jS "/claim/cut.py" 485)]
noncomputable def o244:Obj:=fU "release" "Cache.release" (cb 9 5) Value.none (jS "pipeboard.blocks" 297) (.ref 243)
noncomputable def o247:Obj:=tU #[(jS "self" 490),(jS "buffer" 491)]
noncomputable def o249:Obj:=fR "pin" "Cache.pin" (cb 9 6)
noncomputable def o250:Obj:=cO #[(jS "pin" 487),(jS "Cache.pin" 488),(jS "/claim/cut.py" 489),(iN 119),(iN 2),(iN 0),(iN 0),(iN 3),(.ref 245),(.bool true),(iN 181),(.ref 246),Value.none,(.ref 247),(.ref 248),(.ref 249),(iN 492),(iN 119),(jS "/claim/cut.py" 493)]
noncomputable def o251:Obj:=fU "pin" "Cache.pin" (cb 9 6) Value.none (jS "pipeboard.blocks" 297) (.ref 250)
noncomputable def o254:Obj:=tU #[(jS "self" 498),(jS "number" 499)]
noncomputable def o256:Obj:=fR "unpin" "Cache.unpin" (cb 9 7)
noncomputable def o257:Obj:=cO #[(jS "unpin" 495),(jS "Cache.unpin" 496),(jS "/claim/cut.py" 497),(iN 122),(iN 2),(iN 0),(iN 0),(iN 3),(.ref 252),(.bool true),(iN 181),(.ref 253),Value.none,(.ref 254),(.ref 255),(.ref 256),(iN 500),(iN 122),(jS "/claim/cut.py" 501)]
noncomputable def o258:Obj:=fU "unpin" "Cache.unpin" (cb 9 7) Value.none (jS "pipeboard.blocks" 297) (.ref 257)
noncomputable def o261:Obj:=tU #[(jS "self" 506),(jS "buffer" 507)]
noncomputable def o263:Obj:=Obj.mk Value.none none (Data.func (PySem.FuncData.mk (Str.ofString "write") (Str.ofString "Cache.write") (fA (cb 9 8)) (PySem.FuncBody.stmts (fB (cb 9 8))) (fS (cb 9 5)) 0 [] Value.none Value.none Value.none Value.none none Value.none Value.none 0)) #[]
noncomputable def o264:Obj:=cO #[(jS "write" 503),(jS "Cache.write" 504),(jS "/claim/cut.py" 505),(iN 125),(iN 2),(iN 0),(iN 0),(iN 3),(.ref 259),(.bool true),(iN 181),(.ref 260),Value.none,(.ref 261),(.ref 262),(.ref 263),(iN 508),(iN 125),(jS "/claim/cut.py" 509)]
noncomputable def o265:Obj:=Obj.mk (.type "function") none (Data.func (PySem.FuncData.mk (Str.ofString "write") (Str.ofString "Cache.write") (fA (cb 9 8)) (PySem.FuncBody.stmts (fB (cb 9 8))) (fS (cb 9 5)) 3 [] Value.none Value.none Value.none (jS "pipeboard.blocks" 297) none (.ref 264) Value.none 0)) #[]
noncomputable def o268:Obj:=tU #[(jS "self" 514)]
noncomputable def o270:Obj:=Obj.mk Value.none none (Data.func (PySem.FuncData.mk (Str.ofString "flush") (Str.ofString "Cache.flush") (fA (cb 9 9)) (PySem.FuncBody.stmts (fB (cb 9 9))) (fS (cb 8 1)) 0 [] Value.none Value.none Value.none Value.none none Value.none Value.none 0)) #[]
noncomputable def o271:Obj:=cO #[(jS "flush" 511),(jS "Cache.flush" 512),(jS "/claim/cut.py" 513),(iN 130),(iN 1),(iN 0),(iN 0),(iN 3),(.ref 266),(.bool true),(iN 181),(.ref 267),Value.none,(.ref 268),(.ref 269),(.ref 270),(iN 515),(iN 130),(jS "/claim/cut.py" 516)]
noncomputable def o272:Obj:=Obj.mk (.type "function") none (Data.func (PySem.FuncData.mk (Str.ofString "flush") (Str.ofString "Cache.flush") (fA (cb 9 9)) (PySem.FuncBody.stmts (fB (cb 9 9))) (fS (cb 8 1)) 3 [] Value.none Value.none Value.none (jS "pipeboard.blocks" 297) none (.ref 271) Value.none 0)) #[]
noncomputable def o275:Obj:=tU #[(jS "self" 521),(jS "number" 522),(jS "buffer" 523),(jS "octets" 524)]
noncomputable def o277:Obj:=fR "peek" "Cache.peek" (cb 9 10)
noncomputable def o278:Obj:=cO #[(jS "peek" 518),(jS "Cache.peek" 519),(jS "/claim/cut.py" 520),(iN 133),(iN 2),(iN 0),(iN 0),(iN 3),(.ref 273),(.bool true),(iN 181),(.ref 274),Value.none,(.ref 275),(.ref 276),(.ref 277),(iN 525),(iN 133),(jS "/claim/cut.py" 526)]
noncomputable def o279:Obj:=fU "peek" "Cache.peek" (cb 9 10) Value.none (jS "pipeboard.blocks" 297) (.ref 278)
noncomputable def o282:Obj:=tU #[(jS "self" 531),(jS "number" 532),(jS "octets" 533),(jS "buffer" 534)]
noncomputable def o284:Obj:=fR "poke" "Cache.poke" (cb 9 11)
noncomputable def o285:Obj:=cO #[(jS "poke" 528),(jS "Cache.poke" 529),(jS "/claim/cut.py" 530),(iN 139),(iN 3),(iN 0),(iN 0),(iN 3),(.ref 280),(.bool true),(iN 181),(.ref 281),Value.none,(.ref 282),(.ref 283),(.ref 284),(iN 535),(iN 139),(jS "/claim/cut.py" 536)]
noncomputable def o286:Obj:=fU "poke" "Cache.poke" (cb 9 11) Value.none (jS "pipeboard.blocks" 297) (.ref 285)
noncomputable def o289:Obj:=fR "known" "Cache.known" (cb 9 12)
noncomputable def o290:Obj:=cO #[(jS "known" 538),(jS "Cache.known" 539),(jS "/claim/cut.py" 540),(iN 148),(iN 1),(iN 0),(iN 0),(iN 3),(.ref 287),(.bool true),(iN 181),(.ref 288),Value.none,Value.none,Value.none,(.ref 289),(iN 541),(iN 148),(jS "/claim/cut.py" 542)]
noncomputable def o291:Obj:=fU "known" "Cache.known" (cb 9 12) Value.none (jS "pipeboard.blocks" 297) (.ref 290)
noncomputable def o294:Obj:=tU #[(jS "self" 547)]
noncomputable def o296:Obj:=Obj.mk Value.none none (Data.func (PySem.FuncData.mk (Str.ofString "free_count") (Str.ofString "Cache.free_count") (fA (cb 9 13)) (PySem.FuncBody.stmts (fB (cb 9 13))) (fS (cb 8 7)) 0 [] Value.none Value.none Value.none Value.none none Value.none Value.none 0)) #[]
noncomputable def o297:Obj:=cO #[(jS "free_count" 544),(jS "Cache.free_count" 545),(jS "/claim/cut.py" 546),(iN 151),(iN 1),(iN 0),(iN 0),(iN 3),(.ref 292),(.bool true),(iN 181),(.ref 293),Value.none,(.ref 294),(.ref 295),(.ref 296),(iN 548),(iN 151),(jS "/claim/cut.py" 549)]
noncomputable def o298:Obj:=Obj.mk (.type "function") none (Data.func (PySem.FuncData.mk (Str.ofString "free_count") (Str.ofString "Cache.free_count") (fA (cb 9 13)) (PySem.FuncBody.stmts (fB (cb 9 13))) (fS (cb 8 7)) 3 [] Value.none Value.none Value.none (jS "pipeboard.blocks" 297) none (.ref 297) Value.none 0)) #[]
noncomputable def o301:Obj:=tU #[(jS "self" 554),(jS "buffer" 555)]
noncomputable def o303:Obj:=fR "forget" "Cache.forget" (cb 9 14)
noncomputable def o304:Obj:=cO #[(jS "forget" 551),(jS "Cache.forget" 552),(jS "/claim/cut.py" 553),(iN 154),(iN 1),(iN 0),(iN 0),(iN 3),(.ref 299),(.bool true),(iN 181),(.ref 300),Value.none,(.ref 301),(.ref 302),(.ref 303),(iN 556),(iN 154),(jS "/claim/cut.py" 557)]
noncomputable def o305:Obj:=fU "forget" "Cache.forget" (cb 9 14) Value.none (jS "pipeboard.blocks" 297) (.ref 304)
noncomputable def o306:Obj:=tU #[(jS "by_number" 559),(jS "disk" 560),(jS "hits" 561),(jS "most" 562),(jS "reads" 563),(jS "row" 564),(jS "size" 565),(jS "writes" 566)]
noncomputable def o307:Ob:=fun P=>Obj.mk (.type "dict") none (Data.dict #[(eN P "__module__" 431 (jS "pipeboard.blocks" 297)),(eN P "__firstlineno__" 435 (.int 66 434)),(eN P "__init__" 444 (.ref 209)),(eN P "need_block" 452 (.ref 216)),(eN P "need_held" 460 (.ref 223)),(eN P "get" 469 (.ref 230)),(eN P "make_room" 478 (.ref 237)),(eN P "release" 486 (.ref 244)),(eN P "pin" 494 (.ref 251)),(eN P "unpin" 502 (.ref 258)),(eN P "write" 510 (.ref 265)),(eN P "flush" 517 (.ref 272)),(eN P "peek" 527 (.ref 279)),(eN P "poke" 537 (.ref 286)),(eN P "known" 543 (.ref 291)),(eN P "free_count" 550 (.ref 298)),(eN P "forget" 558 (.ref 305)),(eN P "__static_attributes__" 567 (.ref 306)),(eN P "__dict__" 569 (.ref 309)),(eN P "__weakref__" 571 (.ref 310)),(eN P "__doc__" 572 Value.none)] 4) #[]
noncomputable def o308:Obj:=Obj.mk (.type "type") none (Data.cls (PySem.ClassData.mk (Str.ofString "Cache") [(.type "object")] [(.ref 308),(.type "object")] 307 (Str.ofString "Cache") true [] [] false none false)) #[none,none,(some (jS "Cache" 424)),(some (jS "Cache" 432)),(some (Value.builtin "object.__new__")),(some (.bool true))]
noncomputable def o309:Obj:=Obj.mk (.type "getset_descriptor") none (Data.fields #[(jS "__dict__" 568),(.ref 308),(Value.builtin "function.__dict__"),(Value.builtin "function.__dict__#set")]) #[]
noncomputable def o310:Obj:=Obj.mk (.type "getset_descriptor") none (Data.fields #[(jS "__weakref__" 570),(.ref 308),(Value.builtin "ExceptionGroup.__weakref__"),Value.none]) #[]
noncomputable def o311:Obj:=Obj.mk (.type "super") none (Data.fields #[(.ref 308),(.ref 308),(.ref 308)]) #[]
noncomputable def o312:Obj:=Obj.mk (.type "builtin_function_or_method") none (Data.fields #[(Value.builtin "object.__init_subclass__"),(.ref 308)]) #[]
noncomputable def T3:Params→BT:=fun P=>(N (boot_o_0 P) (N (boot_o_1 P) (N (o3_3 P) (N (boot_o_7 P) (N o11 (N o12 (N (o63 P) (N o12 (F o11) L) (F qxv)) (N o95 (N qxb (F o11) L) (F o223))) (N o12 (N o43 (N o11 (F o271) L) (F o207)) (N qwk (N o11 (F o303) L) (F o12)))) (N o23 (N qmu (N o12 (N qwx (F o263) L) (F o11)) (N qwf (N qxg (F o11) L) (F o11))) (N o43 (N o12 (N qw6 (F o279) L) (F o215)) (N o11 (N o12 (F o311) L) (F o247))))) (N o11 (N o19 (N o35 (N o43 (N qwv (F o11) L) (F qxz)) (N o23 (N qxd (F o291) L) (F o11))) (N (o51 P) (N o83 (N o11 (F o275) L) (F o12)) (N o11 (N qxm (F (o307 P)) L) (F o243)))) (N o27 (N o43 (N (o75 P) (N qw0 (F o12) L) (F o11)) (N qwh (N o11 (F o11) L) (F o235))) (N o12 (N o91 (N o12 (F o11) L) (F o219)) (N qwq (F qxr) (F o251)))))) (N (boot_o_5 P) (N (boot_o_9 P) (N o17 (N o11 (N o65 (N o11 (F o257) L) (F qxx)) (N o97 (N o11 (F o289) L) (F o12))) (N o49 (N (o81 P) (N qw3 (F o11) L) (F o209)) (N o12 (N qxl (F o305) L) (F o11)))) (N o11 (N o41 (N o73 (N qwy (F o265) L) (F o201)) (N o11 (N o12 (F o297) L) (F o233))) (N (o57 P) (N o11 (N qw8 (F o12) L) (F o11)) (N qwp (F o11) (F o249))))) (N o13 (N o21 (N o37 (N (o69 P) (N o11 (F o261) L) (F o23)) (N o11 (N qxe (F o12) L) (F o229))) (N o53 (N o85 (N qw5 (F o277) L) (F o11)) (N qwn (N qxo (F o309) L) (F o11)))) (N o29 (N (o45 P) (N o77 (N o12 (F o11) L) (F o205)) (N qwi (N qxj (F o301) L) (F o237))) (N o61 (N o93 (N o11 (F o285) L) (F o221)) (N qws (F qxt) (F o12))))))) (N (boot_o_2 P) (N (boot_o_4 P) (N (boot_o_8 P) (N o12 (N o32 (N o64 (N qwt (F o256) L) (F qxw)) (N o96 (N qxc (F o12) L) (F o11))) (N o48 (N o23 (N qw2 (F o272) L) (F o208)) (N o11 (N o12 (F o304) L) (F o240)))) (N (o24 P) (N o40 (N o72 (N o11 (F o264) L) (F o200)) (N qwg (N o11 (F o296) L) (F o12))) (N o23 (N o88 (N qw7 (F o11) L) (F o216)) (N o12 (N qxp (F o312) L) (F o11))))) (N o12_3 (N o20 (N o36 (N o23 (N qww (F o12) L) (F o11)) (N (qwd P) (N o11 (F o11) L) (F o228))) (N o52 (N o84 (N o12 (F o11) L) (F o212)) (N qwm (N qxn (F o308) L) (F o244)))) (N o28 (N o23 (N o76 (N o11 (F o268) L) (F o12)) (N o11 (N qxi (F o12) L) (F o236))) (N o60 (N o92 (N qw9 (F o284) L) (F o11)) (N qwr (F qxs) (F o11)))))) (N (boot_o_6 P) (N (boot_o_10 P) (N o11 (N o34 (N o66 (N qwu (F o258) L) (F qxy)) (N o11 (N o12 (F o290) L) (F o226))) (N o11 (N o11 (N qw4 (F o12) L) (F o11)) (N qwl (N o11 (F o306) L) (F o242)))) (N o26 (N o42 (N o11 (N qwz (F o11) L) (F o202)) (N o12 (N qxh (F o298) L) (F o11))) (N o11 (N o90 (N o11 (F o282) L) (F o12)) (N o11 (F qxq) (F o250))))) (N o14 (N o22 (N (o38 P) (N o11 (N o12 (F o11) L) (F (o198 P))) (N qwe (N qxf (F o294) L) (F o230))) (N o54 (N o11 (N o11 (F o278) L) (F o214)) (N qwo (N o11 (F o310) L) (F o12)))) (N o11 (N o11 (N o78 (N qw1 (F o270) L) (F o11)) (N qwj (N qxk (F o11) L) (F o11))) (N o11 (N (o94 P) (N qxa (F o286) L) (F o222)) (N o11 (F (qxu P)) (F o254))))))))
noncomputable def S3 (w:World) (os:OsState):SharedT:=⟨T3 w.params,313,(Life.mk [] [] [] 0 [] [] false #[] [] 0 false false false 0 [2000,10,10] false 0 true [] [] 0 false),(Array.mk []),(Drawn.mk 0 0 0 0),577,os⟩
noncomputable def hS3:List Stmt:=(hB.drop 9).take 2
theorem h_g3 (w:World):(fun os=>segRunT treeTable pw w m0 ann 1 688 (S2 w os) (piecesOf hS3 qsg hC (Pos.mk 22 0 65 16) [topFrame hq]))=fun os=>some (.next,S3 w os,hC,(Pos.mk 159 0 159 8)):=by kernel_rfl
noncomputable def o3_4:Ob:=fun P=>Obj.mk (.type "dict") none (Data.dict #[(eN P "__name__" 165 (jS "law_up0077_01" 715)),(eN P "__doc__" 166 Value.none),(eN P "__package__" 167 Value.none),(eN P "__loader__" 168 (Value.builtin "__main__.__loader__#opaque")),(eN P "__spec__" 169 Value.none),(eN P "__annotations__" 170 (.ref 6)),(eN P "__builtins__" 171 (.ref 4)),(eN P "__file__" 173 (jS "/claim/cut.py" 172)),(eN P "__cached__" 174 Value.none),(eN P "_wall" 193 (.ref 21)),(eN P "BoardError" 223 (.ref 39)),(eN P "BadArgument" 239 (.ref 52)),(eN P "BadDisk" 255 (.ref 64)),(eN P "NoRoom" 271 (.ref 76)),(eN P "Crash" 296 (.ref 95)),(eN P "Buffer" 423 (.ref 191)),(eN P "Cache" 574 (.ref 308)),(eN P "Disk" 707 (.ref 406)),(eN P "octets_in" 714 (.ref 417)),(eN P "_law_well" 726 (.ref 424)),(eN P "_law_draw" 735 (.ref 431))] 21) #[]
noncomputable def o12_4:Obj:=fO #[(iN 1),(iN 0),(.ref 20),(iN 5),(iN 0),(.ref 27),(iN 10),(iN 0),(.ref 48),(iN 12),(iN 0),(.ref 60),(iN 14),(iN 0),(.ref 72),(iN 16),(iN 0),(.ref 84),(iN 22),(iN 0),(.ref 103),(iN 66),(iN 0),(.ref 201),(iN 160),(iN 0),(.ref 318),(iN 241),(iN 0),(.ref 416),(iN 249),(iN 0),(.ref 423),(iN 257),(iN 0),(.ref 430)]
noncomputable def o315:Ob:=fun P=>Obj.mk (.type "dict") none (Data.dict #[(eN P "__module__" 584 (jS "pipeboard.devices" 575)),(eN P "__qualname__" 586 (jS "Disk" 585)),(eN P "__firstlineno__" 588 (.int 160 587)),(eN P "__init__" 597 (.ref 326)),(eN P "need_power" 604 (.ref 333)),(eN P "need_block" 612 (.ref 340)),(eN P "read" 620 (.ref 347)),(eN P "write" 630 (.ref 354)),(eN P "fail" 637 (.ref 361)),(eN P "flush" 646 (.ref 368)),(eN P "stop_after" 654 (.ref 375)),(eN P "stop_at_flush" 662 (.ref 382)),(eN P "after" 675 (.ref 389)),(eN P "copy" 682 (.ref 396)),(eN P "image" 689 (.ref 403)),(eN P "__static_attributes__" 700 (.ref 404))] 16) #[]
noncomputable def o317:Obj:=fO #[(iN 162),(iN 4),(.ref 325),(iN 176),(iN 4),(.ref 332),(iN 180),(iN 4),(.ref 339),(iN 184),(iN 4),(.ref 346),(iN 189),(iN 4),(.ref 353),(iN 201),(iN 4),(.ref 360),(iN 205),(iN 4),(.ref 367),(iN 214),(iN 4),(.ref 374),(iN 219),(iN 4),(.ref 381),(iN 224),(iN 4),(.ref 388),(iN 236),(iN 4),(.ref 395),(iN 239),(iN 4),(.ref 402)]
noncomputable def o318:Obj:=cO #[(jS "Disk" 579),(jS "Disk" 580),(jS "/claim/cut.py" 581),(iN 160),(iN 0),(iN 0),(iN 0),(iN 0),(.ref 316),(.bool false),(iN 181),(.ref 317),Value.none,Value.none,Value.none,Value.none,(iN 582),(iN 160),(jS "/claim/cut.py" 583)]
noncomputable def o319:Obj:=Obj.mk (.type "frame") none Data.plain #[(some (.ref 318)),(some (.ref 3)),(some (.ref 315)),none,(some (jS "pipeboard.devices" 575)),none,(some (.ref 0))]
noncomputable def o322:Obj:=tU #[(jS "self" 592),(jS "blocks" 593),(jS "size" 594)]
noncomputable def o324:Obj:=fR "__init__" "Disk.__init__" (cb 11 0)
noncomputable def o325:Obj:=cO #[(jS "__init__" 589),(jS "Disk.__init__" 590),(jS "/claim/cut.py" 591),(iN 162),(iN 3),(iN 0),(iN 0),(iN 3),(.ref 320),(.bool true),(iN 181),(.ref 321),Value.none,(.ref 322),(.ref 323),(.ref 324),(iN 595),(iN 162),(jS "/claim/cut.py" 596)]
noncomputable def o326:Obj:=fU "__init__" "Disk.__init__" (cb 11 0) Value.none (jS "pipeboard.devices" 575) (.ref 325)
noncomputable def o329:Obj:=tU #[(jS "self" 601)]
noncomputable def o331:Obj:=fR "need_power" "Disk.need_power" (cb 11 1)
noncomputable def o332:Obj:=cO #[(jS "need_power" 598),(jS "Disk.need_power" 599),(jS "/claim/cut.py" 600),(iN 176),(iN 1),(iN 0),(iN 0),(iN 3),(.ref 327),(.bool true),(iN 181),(.ref 328),Value.none,(.ref 329),(.ref 330),(.ref 331),(iN 602),(iN 176),(jS "/claim/cut.py" 603)]
noncomputable def o333:Obj:=fU "need_power" "Disk.need_power" (cb 11 1) Value.none (jS "pipeboard.devices" 575) (.ref 332)
noncomputable def o336:Obj:=tU #[(jS "self" 608),(jS "number" 609)]
noncomputable def o338:Obj:=Obj.mk Value.none none (Data.func (PySem.FuncData.mk (Str.ofString "need_block") (Str.ofString "Disk.need_block") (fA (cb 11 2)) (PySem.FuncBody.stmts (fB (cb 11 2))) (fS (cb 9 1)) 0 [] Value.none Value.none Value.none Value.none none Value.none Value.none 0)) #[]
noncomputable def o339:Obj:=cO #[(jS "need_block" 605),(jS "Disk.need_block" 606),(jS "/claim/cut.py" 607),(iN 180),(iN 2),(iN 0),(iN 0),(iN 3),(.ref 334),(.bool true),(iN 181),(.ref 335),Value.none,(.ref 336),(.ref 337),(.ref 338),(iN 610),(iN 180),(jS "/claim/cut.py" 611)]
noncomputable def o340:Obj:=Obj.mk (.type "function") none (Data.func (PySem.FuncData.mk (Str.ofString "need_block") (Str.ofString "Disk.need_block") (fA (cb 11 2)) (PySem.FuncBody.stmts (fB (cb 11 2))) (fS (cb 9 1)) 3 [] Value.none Value.none Value.none (jS "pipeboard.devices" 575) none (.ref 339) Value.none 0)) #[]
noncomputable def o343:Obj:=tU #[(jS "self" 616),(jS "number" 617)]
noncomputable def o345:Obj:=fR "read" "Disk.read" (cb 11 3)
noncomputable def o346:Obj:=cO #[(jS "read" 613),(jS "Disk.read" 614),(jS "/claim/cut.py" 615),(iN 184),(iN 2),(iN 0),(iN 0),(iN 3),(.ref 341),(.bool true),(iN 181),(.ref 342),Value.none,(.ref 343),(.ref 344),(.ref 345),(iN 618),(iN 184),(jS "/claim/cut.py" 619)]
noncomputable def o347:Obj:=fU "read" "Disk.read" (cb 11 3) Value.none (jS "pipeboard.devices" 575) (.ref 346)
noncomputable def o350:Obj:=tU #[(jS "self" 624),(jS "number" 625),(jS "octets" 626),(jS "block" 627)]
noncomputable def o352:Obj:=fR "write" "Disk.write" (cb 11 4)
noncomputable def o353:Obj:=cO #[(jS "write" 621),(jS "Disk.write" 622),(jS "/claim/cut.py" 623),(iN 189),(iN 3),(iN 0),(iN 0),(iN 3),(.ref 348),(.bool true),(iN 181),(.ref 349),Value.none,(.ref 350),(.ref 351),(.ref 352),(iN 628),(iN 189),(jS "/claim/cut.py" 629)]
noncomputable def o354:Obj:=fU "write" "Disk.write" (cb 11 4) Value.none (jS "pipeboard.devices" 575) (.ref 353)
noncomputable def o357:Obj:=tU #[(jS "self" 634)]
noncomputable def o359:Obj:=Obj.mk Value.none none (Data.func (PySem.FuncData.mk (Str.ofString "fail") (Str.ofString "Disk.fail") (fA (cb 11 5)) (PySem.FuncBody.stmts (fB (cb 11 5))) (fS (cb 11 1)) 0 [] Value.none Value.none Value.none Value.none none Value.none Value.none 0)) #[]
noncomputable def o360:Obj:=cO #[(jS "fail" 631),(jS "Disk.fail" 632),(jS "/claim/cut.py" 633),(iN 201),(iN 1),(iN 0),(iN 0),(iN 3),(.ref 355),(.bool true),(iN 181),(.ref 356),Value.none,(.ref 357),(.ref 358),(.ref 359),(iN 635),(iN 201),(jS "/claim/cut.py" 636)]
noncomputable def o361:Obj:=Obj.mk (.type "function") none (Data.func (PySem.FuncData.mk (Str.ofString "fail") (Str.ofString "Disk.fail") (fA (cb 11 5)) (PySem.FuncBody.stmts (fB (cb 11 5))) (fS (cb 11 1)) 3 [] Value.none Value.none Value.none (jS "pipeboard.devices" 575) none (.ref 360) Value.none 0)) #[]
noncomputable def o364:Obj:=tU #[(jS "self" 641),(jS "number" 642),(jS "octets" 643)]
noncomputable def o366:Obj:=fR "flush" "Disk.flush" (cb 11 6)
noncomputable def o367:Obj:=cO #[(jS "flush" 638),(jS "Disk.flush" 639),(jS "/claim/cut.py" 640),(iN 205),(iN 1),(iN 0),(iN 0),(iN 3),(.ref 362),(.bool true),(iN 181),(.ref 363),Value.none,(.ref 364),(.ref 365),(.ref 366),(iN 644),(iN 205),(jS "/claim/cut.py" 645)]
noncomputable def o368:Obj:=fU "flush" "Disk.flush" (cb 11 6) Value.none (jS "pipeboard.devices" 575) (.ref 367)
noncomputable def o371:Obj:=tU #[(jS "self" 650),(jS "count" 651)]
noncomputable def o373:Obj:=fR "stop_after" "Disk.stop_after" (cb 11 7)
noncomputable def o374:Obj:=cO #[(jS "stop_after" 647),(jS "Disk.stop_after" 648),(jS "/claim/cut.py" 649),(iN 214),(iN 2),(iN 0),(iN 0),(iN 3),(.ref 369),(.bool true),(iN 181),(.ref 370),Value.none,(.ref 371),(.ref 372),(.ref 373),(iN 652),(iN 214),(jS "/claim/cut.py" 653)]
noncomputable def o375:Obj:=fU "stop_after" "Disk.stop_after" (cb 11 7) Value.none (jS "pipeboard.devices" 575) (.ref 374)
noncomputable def o378:Obj:=tU #[(jS "self" 658),(jS "count" 659)]
noncomputable def o380:Obj:=Obj.mk Value.none none (Data.func (PySem.FuncData.mk (Str.ofString "stop_at_flush") (Str.ofString "Disk.stop_at_flush") (fA (cb 11 8)) (PySem.FuncBody.stmts (fB (cb 11 8))) (fS (cb 11 7)) 0 [] Value.none Value.none Value.none Value.none none Value.none Value.none 0)) #[]
noncomputable def o381:Obj:=cO #[(jS "stop_at_flush" 655),(jS "Disk.stop_at_flush" 656),(jS "/claim/cut.py" 657),(iN 219),(iN 2),(iN 0),(iN 0),(iN 3),(.ref 376),(.bool true),(iN 181),(.ref 377),Value.none,(.ref 378),(.ref 379),(.ref 380),(iN 660),(iN 219),(jS "/claim/cut.py" 661)]
noncomputable def o382:Obj:=Obj.mk (.type "function") none (Data.func (PySem.FuncData.mk (Str.ofString "stop_at_flush") (Str.ofString "Disk.stop_at_flush") (fA (cb 11 8)) (PySem.FuncBody.stmts (fB (cb 11 8))) (fS (cb 11 7)) 3 [] Value.none Value.none Value.none (jS "pipeboard.devices" 575) none (.ref 381) Value.none 0)) #[]
noncomputable def o385:Obj:=tU #[(jS "self" 666),(jS "chosen" 667),(jS "found" 668),(jS "places" 669),(jS "place" 670),(jS "number" 671),(jS "octets" 672)]
noncomputable def o387:Obj:=fR "after" "Disk.after" (cb 11 9)
noncomputable def o388:Obj:=cO #[(jS "after" 663),(jS "Disk.after" 664),(jS "/claim/cut.py" 665),(iN 224),(iN 2),(iN 0),(iN 0),(iN 3),(.ref 383),(.bool true),(iN 181),(.ref 384),Value.none,(.ref 385),(.ref 386),(.ref 387),(iN 673),(iN 224),(jS "/claim/cut.py" 674)]
noncomputable def o389:Obj:=fU "after" "Disk.after" (cb 11 9) Value.none (jS "pipeboard.devices" 575) (.ref 388)
noncomputable def o392:Obj:=tU #[(jS "self" 679)]
noncomputable def o394:Obj:=fR "copy" "Disk.copy" (cb 11 10)
noncomputable def o395:Obj:=cO #[(jS "copy" 676),(jS "Disk.copy" 677),(jS "/claim/cut.py" 678),(iN 236),(iN 1),(iN 0),(iN 0),(iN 3),(.ref 390),(.bool true),(iN 181),(.ref 391),Value.none,(.ref 392),(.ref 393),(.ref 394),(iN 680),(iN 236),(jS "/claim/cut.py" 681)]
noncomputable def o396:Obj:=fU "copy" "Disk.copy" (cb 11 10) Value.none (jS "pipeboard.devices" 575) (.ref 395)
noncomputable def o399:Obj:=tU #[(jS "self" 686)]
noncomputable def o401:Obj:=Obj.mk Value.none none (Data.func (PySem.FuncData.mk (Str.ofString "image") (Str.ofString "Disk.image") (fA (cb 11 11)) (PySem.FuncBody.stmts (fB (cb 11 11))) (fS (cb 8 7)) 0 [] Value.none Value.none Value.none Value.none none Value.none Value.none 0)) #[]
noncomputable def o402:Obj:=cO #[(jS "image" 683),(jS "Disk.image" 684),(jS "/claim/cut.py" 685),(iN 239),(iN 1),(iN 0),(iN 0),(iN 3),(.ref 397),(.bool true),(iN 181),(.ref 398),Value.none,(.ref 399),(.ref 400),(.ref 401),(iN 687),(iN 239),(jS "/claim/cut.py" 688)]
noncomputable def o403:Obj:=Obj.mk (.type "function") none (Data.func (PySem.FuncData.mk (Str.ofString "image") (Str.ofString "Disk.image") (fA (cb 11 11)) (PySem.FuncBody.stmts (fB (cb 11 11))) (fS (cb 8 7)) 3 [] Value.none Value.none Value.none (jS "pipeboard.devices" 575) none (.ref 402) Value.none 0)) #[]
noncomputable def o404:Obj:=tU #[(jS "blocks" 690),(jS "flushes" 691),(jS "is_dead" 692),(jS "kept" 693),(jS "last" 694),(jS "last_flush" 695),(jS "latest" 696),(jS "size" 697),(jS "unflushed" 698),(jS "writes" 699)]
noncomputable def o405:Ob:=fun P=>Obj.mk (.type "dict") none (Data.dict #[(eN P "__module__" 584 (jS "pipeboard.devices" 575)),(eN P "__firstlineno__" 588 (.int 160 587)),(eN P "__init__" 597 (.ref 326)),(eN P "need_power" 604 (.ref 333)),(eN P "need_block" 612 (.ref 340)),(eN P "read" 620 (.ref 347)),(eN P "write" 630 (.ref 354)),(eN P "fail" 637 (.ref 361)),(eN P "flush" 646 (.ref 368)),(eN P "stop_after" 654 (.ref 375)),(eN P "stop_at_flush" 662 (.ref 382)),(eN P "after" 675 (.ref 389)),(eN P "copy" 682 (.ref 396)),(eN P "image" 689 (.ref 403)),(eN P "__static_attributes__" 700 (.ref 404)),(eN P "__dict__" 702 (.ref 407)),(eN P "__weakref__" 704 (.ref 408)),(eN P "__doc__" 705 Value.none)] 4) #[]
noncomputable def o406:Obj:=Obj.mk (.type "type") none (Data.cls (PySem.ClassData.mk (Str.ofString "Disk") [(.type "object")] [(.ref 406),(.type "object")] 405 (Str.ofString "Disk") true [] [] false none false)) #[none,none,(some (jS "Disk" 577)),(some (jS "Disk" 585)),(some (Value.builtin "object.__new__")),(some (.bool true))]
noncomputable def o407:Obj:=Obj.mk (.type "getset_descriptor") none (Data.fields #[(jS "__dict__" 701),(.ref 406),(Value.builtin "function.__dict__"),(Value.builtin "function.__dict__#set")]) #[]
noncomputable def o408:Obj:=Obj.mk (.type "getset_descriptor") none (Data.fields #[(jS "__weakref__" 703),(.ref 406),(Value.builtin "ExceptionGroup.__weakref__"),Value.none]) #[]
noncomputable def o409:Obj:=Obj.mk (.type "super") none (Data.fields #[(.ref 406),(.ref 406),(.ref 406)]) #[]
noncomputable def o410:Obj:=Obj.mk (.type "builtin_function_or_method") none (Data.fields #[(Value.builtin "object.__init_subclass__"),(.ref 406)]) #[]
noncomputable def o413:Obj:=tU #[(jS "value" 711)]
noncomputable def o415:Obj:=fR "octets_in" "octets_in" (st 12)
noncomputable def o416:Obj:=cO #[(jS "octets_in" 708),(jS "octets_in" 709),(jS "/claim/cut.py" 710),(iN 241),(iN 1),(iN 0),(iN 0),(iN 3),(.ref 411),(.bool true),(iN 181),(.ref 412),Value.none,(.ref 413),(.ref 414),(.ref 415),(iN 712),(iN 241),(jS "/claim/cut.py" 713)]
noncomputable def o417:Obj:=fU "octets_in" "octets_in" (st 12) Value.none (jS "pipeboard.devices" 575) (.ref 416)
noncomputable def o420:Obj:=tU #[(jS "script" 720),(jS "whole" 721),(jS "stirred" 722),(jS "cell" 723)]
noncomputable def o422:Obj:=fR "_law_well" "_law_well" (st 14)
noncomputable def o423:Obj:=cO #[(jS "_law_well" 717),(jS "_law_well" 718),(jS "/claim/cut.py" 719),(iN 249),(iN 1),(iN 0),(iN 0),(iN 3),(.ref 418),(.bool true),(iN 181),(.ref 419),Value.none,(.ref 420),(.ref 421),(.ref 422),(iN 724),(iN 249),(jS "/claim/cut.py" 725)]
noncomputable def o424:Obj:=fU "_law_well" "_law_well" (st 14) Value.none (jS "law_up0077_01" 715) (.ref 423)
noncomputable def o427:Obj:=tU #[(jS "well" 730),(jS "many" 731),(jS "digit" 732)]
noncomputable def o429:Obj:=fR "_law_draw" "_law_draw" (st 15)
noncomputable def o430:Obj:=cO #[(jS "_law_draw" 727),(jS "_law_draw" 728),(jS "/claim/cut.py" 729),(iN 257),(iN 2),(iN 0),(iN 0),(iN 3),(.ref 425),(.bool true),(iN 181),(.ref 426),Value.none,(.ref 427),(.ref 428),(.ref 429),(iN 733),(iN 257),(jS "/claim/cut.py" 734)]
noncomputable def o431:Obj:=fU "_law_draw" "_law_draw" (st 15) Value.none (jS "law_up0077_01" 715) (.ref 430)
noncomputable def T4:Params→BT:=fun P=>(N (boot_o_0 P) (N (boot_o_1 P) (N (o3_4 P) (N (boot_o_7 P) (N o11 (N o12 (N (o63 P) (N o12 (F o11) (F o11)) (N qxv (F o319) L)) (N o95 (N qxb (F o11) (F o415)) (N o223 (F o11) L))) (N o12 (N o43 (N o11 (F o271) (F o399)) (N o207 (F o12) L)) (N qwk (N o11 (F o303) (F o431)) (N o12 (F o367) L)))) (N o23 (N qmu (N o12 (N qwx (F o263) (F o12)) (N o11 (F o11) L)) (N qwf (N qxg (F o11) (F o423)) (N o11 (F o359) L))) (N o43 (N o12 (N qw6 (F o279) (F o407)) (N o215 (F o343) L)) (N o11 (N o12 (F o311) L) (N o247 (F o375) L))))) (N o11 (N o19 (N o35 (N o43 (N qwv (F o11) (F o387)) (N qxz (F o11) L)) (N o23 (N qxd (F o291) (F o12)) (N o11 (F o11) L))) (N (o51 P) (N o83 (N o11 (F o275) (F o403)) (N o12 (F o339) L)) (N o11 (N qxm (F (o307 P)) L) (N o243 (F o371) L)))) (N o27 (N o43 (N (o75 P) (N qw0 (F o12) (F o395)) (N o11 (F o331) L)) (N qwh (N o11 (F o11) (F o427)) (N o235 (F o12) L))) (N o12 (N o91 (N o12 (F o11) (F o11)) (N o219 (F o347) L)) (N qwq (N qxr (F (o315 P)) L) (N o251 (F o11) L)))))) (N (boot_o_5 P) (N (boot_o_9 P) (N o17 (N o11 (N o65 (N o11 (F o257) (F o385)) (N qxx (F o12) L)) (N o97 (N o11 (F o289) (F o417)) (N o12 (F o353) L))) (N o49 (N (o81 P) (N qw3 (F o11) (F o401)) (N o209 (F o11) L)) (N o12 (N qxl (F o305) L) (N o11 (F o11) L)))) (N o11 (N o41 (N o73 (N qwy (F o265) (F o11)) (N o201 (F o329) L)) (N o11 (N o12 (F o297) (F o11)) (N o233 (F o361) L))) (N (o57 P) (N o11 (N qw8 (F o12) (F o409)) (N o11 (F o345) L)) (N qwp (N o11 (F o11) L) (N o249 (F o12) L))))) (N o13 (N o21 (N o37 (N (o69 P) (N o11 (F o261) (F o389)) (N o23 (F o325) L)) (N o11 (N qxe (F o12) (F o11)) (N o229 (F o357) L))) (N o53 (N o85 (N qw5 (F o277) (F (o405 P))) (N o11 (F o11) L)) (N qwn (N qxo (F o309) L) (N o11 (F o373) L)))) (N o29 (N (o45 P) (N o77 (N o12 (F o11) (F o11)) (N o205 (F o333) L)) (N qwi (N qxj (F o301) (F o429)) (N o237 (F o11) L))) (N o61 (N o93 (N o11 (F o285) (F o413)) (N o221 (F o12) L)) (N qws (N qxt (F o317) L) (N o12 (F o381) L))))))) (N (boot_o_2 P) (N (boot_o_4 P) (N (boot_o_8 P) (N o12 (N o32 (N o64 (N qwt (F o256) (F o12)) (N qxw (F o11) L)) (N o96 (N qxc (F o12) (F o416)) (N o11 (F o352) L))) (N o48 (N o23 (N qw2 (F o272) (F o11)) (N o208 (F o336) L)) (N o11 (N o12 (F o304) L) (N o240 (F o368) L)))) (N (o24 P) (N o40 (N o72 (N o11 (F o264) (F o392)) (N o200 (F o12) L)) (N qwg (N o11 (F o296) (F o424)) (N o12 (F o360) L))) (N o23 (N o88 (N qw7 (F o11) (F o408)) (N o216 (F o11) L)) (N o12 (N qxp (F o312) L) (N o11 (F o11) L))))) (N o12_4 (N o20 (N o36 (N o23 (N qww (F o12) (F o388)) (N o11 (F o324) L)) (N (qwd P) (N o11 (F o11) (F o420)) (N o228 (F o12) L))) (N o52 (N o84 (N o12 (F o11) (F o404)) (N o212 (F o340) L)) (N qwm (N qxn (F o308) L) (N o244 (F o11) L)))) (N o28 (N o23 (N o76 (N o11 (F o268) (F o396)) (N o12 (F o332) L)) (N o11 (N qxi (F o12) (F o11)) (N o236 (F o364) L))) (N o60 (N o92 (N qw9 (F o284) (F o12)) (N o11 (F o11) L)) (N qwr (N qxs (F o11) L) (N o11 (F o380) L)))))) (N (boot_o_6 P) (N (boot_o_10 P) (N o11 (N o34 (N o66 (N qwu (F o258) (F o11)) (N qxy (F o322) L)) (N o11 (N o12 (F o290) (F o11)) (N o226 (F o354) L))) (N o11 (N o11 (N qw4 (F o12) (F o402)) (N o11 (F o338) L)) (N qwl (N o11 (F o306) L) (N o242 (F o12) L)))) (N o26 (N o42 (N o11 (N qwz (F o11) (F o394)) (N o202 (F o11) L)) (N o12 (N qxh (F o298) (F o12)) (N o11 (F o11) L))) (N o11 (N o90 (N o11 (F o282) (F o410)) (N o12 (F o346) L)) (N o11 (N qxq (F o23) L) (N o250 (F o378) L))))) (N o14 (N o22 (N (o38 P) (N o11 (N o12 (F o11) (F o11)) (N (o198 P) (F o326) L)) (N qwe (N qxf (F o294) (F o422)) (N o230 (F o11) L))) (N o54 (N o11 (N o11 (F o278) (F o406)) (N o214 (F o12) L)) (N qwo (N o11 (F o310) L) (N o12 (F o374) L)))) (N o11 (N o11 (N o78 (N qw1 (F o270) (F o12)) (N o11 (F o11) L)) (N qwj (N qxk (F o11) (F o430)) (N o11 (F o366) L))) (N o11 (N (o94 P) (N qxa (F o286) (F o11)) (N o222 (F o350) L)) (N o11 (N (qxu P) (F o318) L) (N o254 (F o382) L))))))))
noncomputable def S4 (w:World) (os:OsState):SharedT:=⟨T4 w.params,432,(Life.mk [] [] [] 0 [] [] false #[] [] 0 false false false 0 [2000,10,10] false 0 true [] [] 0 false),(Array.mk []),(Drawn.mk 0 0 0 0),736,os⟩
noncomputable def hS4:List Stmt:=(hB.drop 11).take 5
theorem h_g4 (w:World):(fun os=>segRunT treeTable pw w m0 ann 1 690 (S3 w os) (piecesOf hS4 qsg hC (Pos.mk 159 0 159 8) [topFrame hq]))=fun os=>some (.next,S4 w os,hC,(Pos.mk 257 0 263 68)):=by kernel_rfl
noncomputable def o3_5:Ob:=fun P=>Obj.mk (.type "dict") none (Data.dict #[(eN P "__name__" 165 (jS "law_up0077_01" 715)),(eN P "__doc__" 166 Value.none),(eN P "__package__" 167 Value.none),(eN P "__loader__" 168 (Value.builtin "__main__.__loader__#opaque")),(eN P "__spec__" 169 Value.none),(eN P "__annotations__" 170 (.ref 6)),(eN P "__builtins__" 171 (.ref 4)),(eN P "__file__" 173 (jS "/claim/cut.py" 172)),(eN P "__cached__" 174 Value.none),(eN P "_wall" 193 (.ref 21)),(eN P "BoardError" 223 (.ref 39)),(eN P "BadArgument" 239 (.ref 52)),(eN P "BadDisk" 255 (.ref 64)),(eN P "NoRoom" 271 (.ref 76)),(eN P "Crash" 296 (.ref 95)),(eN P "Buffer" 423 (.ref 191)),(eN P "Cache" 574 (.ref 308)),(eN P "Disk" 707 (.ref 406)),(eN P "octets_in" 714 (.ref 417)),(eN P "_law_well" 726 (.ref 424)),(eN P "_law_draw" 735 (.ref 431)),(eN P "_law_side" 741 (.ref 436)),(eN P "_law_deed" 747 (.ref 441)),(eN P "_law_done" 763 (.ref 448)),(eN P "_law_between" 774 (.ref 455)),(eN P "_law_due" 793 (.ref 462)),(eN P "_law_led_on" 804 (.ref 469)),(eN P "_law_latest" 814 (.ref 476)),(eN P "_law_seen" 820 (.ref 481)),(eN P "law" 826 (.ref 486))] 30) #[]
noncomputable def qvr:Obj:=fO #[(iN 1),(iN 0),(.ref 20),(iN 5),(iN 0),(.ref 27),(iN 10),(iN 0),(.ref 48),(iN 12),(iN 0),(.ref 60),(iN 14),(iN 0),(.ref 72),(iN 16),(iN 0),(.ref 84),(iN 22),(iN 0),(.ref 103),(iN 66),(iN 0),(.ref 201),(iN 160),(iN 0),(.ref 318),(iN 241),(iN 0),(.ref 416),(iN 249),(iN 0),(.ref 423),(iN 257),(iN 0),(.ref 430),(iN 264),(iN 0),(.ref 435),(iN 267),(iN 0),(.ref 440),(iN 275),(iN 0),(.ref 447),(iN 299),(iN 0),(.ref 454),(iN 311),(iN 0),(.ref 461),(iN 330),(iN 0),(.ref 468),(iN 340),(iN 0),(.ref 475),(iN 348),(iN 0),(.ref 480),(iN 354),(iN 0),(.ref 485)]
noncomputable def o434:Obj:=fR "_law_side" "_law_side" (st 16)
noncomputable def o435:Obj:=cO #[(jS "_law_side" 736),(jS "_law_side" 737),(jS "/claim/cut.py" 738),(iN 264),(iN 2),(iN 0),(iN 0),(iN 3),(.ref 432),(.bool true),(iN 181),(.ref 433),Value.none,Value.none,Value.none,(.ref 434),(iN 739),(iN 264),(jS "/claim/cut.py" 740)]
noncomputable def o436:Obj:=fU "_law_side" "_law_side" (st 16) Value.none (jS "law_up0077_01" 715) (.ref 435)
noncomputable def o439:Obj:=fR "_law_deed" "_law_deed" (st 17)
noncomputable def o440:Obj:=cO #[(jS "_law_deed" 742),(jS "_law_deed" 743),(jS "/claim/cut.py" 744),(iN 267),(iN 4),(iN 0),(iN 0),(iN 3),(.ref 437),(.bool true),(iN 181),(.ref 438),Value.none,Value.none,Value.none,(.ref 439),(iN 745),(iN 267),(jS "/claim/cut.py" 746)]
noncomputable def o441:Obj:=fU "_law_deed" "_law_deed" (st 17) Value.none (jS "law_up0077_01" 715) (.ref 440)
noncomputable def o444:Obj:=tU #[(jS "side" 751),(jS "deed" 752),(jS "way" 753),(jS "number" 754),(jS "place" 755),(jS "octets" 756),(jS "cache" 757),(jS "hands" 758),(jS "buffer" 759),(jS "before" 760)]
noncomputable def o446:Obj:=fR "_law_done" "_law_done" (st 18)
noncomputable def o447:Obj:=cO #[(jS "_law_done" 748),(jS "_law_done" 749),(jS "/claim/cut.py" 750),(iN 275),(iN 2),(iN 0),(iN 0),(iN 3),(.ref 442),(.bool true),(iN 181),(.ref 443),Value.none,(.ref 444),(.ref 445),(.ref 446),(iN 761),(iN 275),(jS "/claim/cut.py" 762)]
noncomputable def o448:Obj:=fU "_law_done" "_law_done" (st 18) Value.none (jS "law_up0077_01" 715) (.ref 447)
noncomputable def o451:Obj:=tU #[(jS "row" 767),(jS "held" 768),(jS "number" 769),(jS "found" 770),(jS "other" 771)]
noncomputable def o453:Obj:=fR "_law_between" "_law_between" (st 19)
noncomputable def o454:Obj:=cO #[(jS "_law_between" 764),(jS "_law_between" 765),(jS "/claim/cut.py" 766),(iN 299),(iN 3),(iN 0),(iN 0),(iN 3),(.ref 449),(.bool true),(iN 181),(.ref 450),Value.none,(.ref 451),(.ref 452),(.ref 453),(iN 772),(iN 299),(jS "/claim/cut.py" 773)]
noncomputable def o455:Obj:=fU "_law_between" "_law_between" (st 19) Value.none (jS "law_up0077_01" 715) (.ref 454)
noncomputable def o458:Obj:=tU #[(jS "side" 778),(jS "deed" 779),(jS "held" 780),(jS "between" 781),(jS "way" 782),(jS "number" 783),(jS "place" 784),(jS "octets" 785),(jS "shown" 786),(jS "kept" 787),(jS "counts" 788),(jS "is_found" 789),(jS "before" 790)]
noncomputable def o460:Obj:=fR "_law_due" "_law_due" (st 20)
noncomputable def o461:Obj:=cO #[(jS "_law_due" 775),(jS "_law_due" 776),(jS "/claim/cut.py" 777),(iN 311),(iN 4),(iN 0),(iN 0),(iN 3),(.ref 456),(.bool true),(iN 181),(.ref 457),Value.none,(.ref 458),(.ref 459),(.ref 460),(iN 791),(iN 311),(jS "/claim/cut.py" 792)]
noncomputable def o462:Obj:=fU "_law_due" "_law_due" (st 20) Value.none (jS "law_up0077_01" 715) (.ref 461)
noncomputable def o465:Obj:=tU #[(jS "row" 797),(jS "held" 798),(jS "deed" 799),(jS "way" 800),(jS "number" 801)]
noncomputable def o467:Obj:=fR "_law_led_on" "_law_led_on" (st 21)
noncomputable def o468:Obj:=cO #[(jS "_law_led_on" 794),(jS "_law_led_on" 795),(jS "/claim/cut.py" 796),(iN 330),(iN 3),(iN 0),(iN 0),(iN 3),(.ref 463),(.bool true),(iN 181),(.ref 464),Value.none,(.ref 465),(.ref 466),(.ref 467),(iN 802),(iN 330),(jS "/claim/cut.py" 803)]
noncomputable def o469:Obj:=fU "_law_led_on" "_law_led_on" (st 21) Value.none (jS "law_up0077_01" 715) (.ref 468)
noncomputable def o472:Obj:=tU #[(jS "row" 808),(jS "held" 809),(jS "found" 810),(jS "other" 811)]
noncomputable def o474:Obj:=fR "_law_latest" "_law_latest" (st 22)
noncomputable def o475:Obj:=cO #[(jS "_law_latest" 805),(jS "_law_latest" 806),(jS "/claim/cut.py" 807),(iN 340),(iN 2),(iN 0),(iN 0),(iN 3),(.ref 470),(.bool true),(iN 181),(.ref 471),Value.none,(.ref 472),(.ref 473),(.ref 474),(iN 812),(iN 340),(jS "/claim/cut.py" 813)]
noncomputable def o476:Obj:=fU "_law_latest" "_law_latest" (st 22) Value.none (jS "law_up0077_01" 715) (.ref 475)
noncomputable def o479:Obj:=fR "_law_seen" "_law_seen" (st 23)
noncomputable def o480:Obj:=cO #[(jS "_law_seen" 815),(jS "_law_seen" 816),(jS "/claim/cut.py" 817),(iN 348),(iN 3),(iN 0),(iN 0),(iN 3),(.ref 477),(.bool true),(iN 181),(.ref 478),Value.none,Value.none,Value.none,(.ref 479),(iN 818),(iN 348),(jS "/claim/cut.py" 819)]
noncomputable def o481:Obj:=fU "_law_seen" "_law_seen" (st 23) Value.none (jS "law_up0077_01" 715) (.ref 480)
noncomputable def o484:Obj:=fR "law" "law" (st 24)
noncomputable def o485:Obj:=cO #[(jS "law" 821),(jS "law" 822),(jS "/claim/cut.py" 823),(iN 354),(iN 1),(iN 0),(iN 0),(iN 3),(.ref 482),(.bool true),(iN 181),(.ref 483),Value.none,Value.none,Value.none,(.ref 484),(iN 824),(iN 354),(jS "/claim/cut.py" 825)]
noncomputable def o486:Obj:=fU "law" "law" (st 24) Value.none (jS "law_up0077_01" 715) (.ref 485)
noncomputable def T5:Params→BT:=fun P=>(N (boot_o_0 P) (N (boot_o_1 P) (N (o3_5 P) (N (boot_o_7 P) (N o11 (N o12 (N (o63 P) (N o12 (F o11) (F o11)) (N qxv (F o319) (F o447))) (N o95 (N qxb (F o11) (F o415)) (N o223 (F o11) (F o479)))) (N o12 (N o43 (N o11 (F o271) (F o399)) (N o207 (F o12) (F o11))) (N qwk (N o11 (F o303) (F o431)) (N o12 (F o367) L)))) (N o23 (N qmu (N o12 (N qwx (F o263) (F o12)) (N o11 (F o11) (F o455))) (N qwf (N qxg (F o11) (F o423)) (N o11 (F o359) L))) (N o43 (N o12 (N qw6 (F o279) (F o407)) (N o215 (F o343) (F o12))) (N o11 (N o12 (F o311) (F o439)) (N o247 (F o375) L))))) (N o11 (N o19 (N o35 (N o43 (N qwv (F o11) (F o387)) (N qxz (F o11) (F o451))) (N o23 (N qxd (F o291) (F o12)) (N o11 (F o11) (F o12)))) (N (o51 P) (N o83 (N o11 (F o275) (F o403)) (N o12 (F o339) (F o467))) (N o11 (N qxm (F (o307 P)) (F o435)) (N o243 (F o371) L)))) (N o27 (N o43 (N (o75 P) (N qw0 (F o12) (F o395)) (N o11 (F o331) (F o11))) (N qwh (N o11 (F o11) (F o427)) (N o235 (F o12) L))) (N o12 (N o91 (N o12 (F o11) (F o11)) (N o219 (F o347) (F o475))) (N qwq (N qxr (F (o315 P)) (F o12)) (N o251 (F o11) L)))))) (N (boot_o_5 P) (N (boot_o_9 P) (N o17 (N o11 (N o65 (N o11 (F o257) (F o385)) (N qxx (F o12) (F o11))) (N o97 (N o11 (F o289) (F o417)) (N o12 (F o353) (F o481)))) (N o49 (N (o81 P) (N qw3 (F o11) (F o401)) (N o209 (F o11) (F o465))) (N o12 (N qxl (F o305) (F o12)) (N o11 (F o11) L)))) (N o11 (N o41 (N o73 (N qwy (F o265) (F o11)) (N o201 (F o329) (F o12))) (N o11 (N o12 (F o297) (F o11)) (N o233 (F o361) L))) (N (o57 P) (N o11 (N qw8 (F o12) (F o409)) (N o11 (F o345) (F o11))) (N qwp (N o11 (F o11) (F o441)) (N o249 (F o12) L))))) (N o13 (N o21 (N o37 (N (o69 P) (N o11 (F o261) (F o389)) (N o23 (F o325) (F o453))) (N o11 (N qxe (F o12) (F o11)) (N o229 (F o357) (F o485)))) (N o53 (N o85 (N qw5 (F o277) (F (o405 P))) (N o11 (F o11) (F o469))) (N qwn (N qxo (F o309) (F o11)) (N o11 (F o373) L)))) (N o29 (N (o45 P) (N o77 (N o12 (F o11) (F o11)) (N o205 (F o333) (F o461))) (N qwi (N qxj (F o301) (F o429)) (N o237 (F o11) L))) (N o61 (N o93 (N o11 (F o285) (F o413)) (N o221 (F o12) (F o11))) (N qws (N qxt (F o317) (F o11)) (N o12 (F o381) L))))))) (N (boot_o_2 P) (N (boot_o_4 P) (N (boot_o_8 P) (N o12 (N o32 (N o64 (N qwt (F o256) (F o12)) (N qxw (F o11) (F o448))) (N o96 (N qxc (F o12) (F o416)) (N o11 (F o352) (F o480)))) (N o48 (N o23 (N qw2 (F o272) (F o11)) (N o208 (F o336) (F o12))) (N o11 (N o12 (F o304) (F o11)) (N o240 (F o368) L)))) (N (o24 P) (N o40 (N o72 (N o11 (F o264) (F o392)) (N o200 (F o12) (F o11))) (N qwg (N o11 (F o296) (F o424)) (N o12 (F o360) L))) (N o23 (N o88 (N qw7 (F o11) (F o408)) (N o216 (F o11) (F o472))) (N o12 (N qxp (F o312) (F o440)) (N o11 (F o11) L))))) (N qvr (N o20 (N o36 (N o23 (N qww (F o12) (F o388)) (N o11 (F o324) (F o11))) (N (qwd P) (N o11 (F o11) (F o420)) (N o228 (F o12) (F o484)))) (N o52 (N o84 (N o12 (F o11) (F o404)) (N o212 (F o340) (F o468))) (N qwm (N qxn (F o308) (F o436)) (N o244 (F o11) L)))) (N o28 (N o23 (N o76 (N o11 (F o268) (F o396)) (N o12 (F o332) (F o460))) (N o11 (N qxi (F o12) (F o11)) (N o236 (F o364) L))) (N o60 (N o92 (N qw9 (F o284) (F o12)) (N o11 (F o11) (F o476))) (N qwr (N qxs (F o11) (F o444)) (N o11 (F o380) L)))))) (N (boot_o_6 P) (N (boot_o_10 P) (N o11 (N o34 (N o66 (N qwu (F o258) (F o11)) (N qxy (F o322) (F o12))) (N o11 (N o12 (F o290) (F o11)) (N o226 (F o354) (F o11)))) (N o11 (N o11 (N qw4 (F o12) (F o402)) (N o11 (F o338) (F o11))) (N qwl (N o11 (F o306) (F o434)) (N o242 (F o12) L)))) (N o26 (N o42 (N o11 (N qwz (F o11) (F o394)) (N o202 (F o11) (F o458))) (N o12 (N qxh (F o298) (F o12)) (N o11 (F o11) L))) (N o11 (N o90 (N o11 (F o282) (F o410)) (N o12 (F o346) (F o474))) (N o11 (N qxq (F o23) (F o11)) (N o250 (F o378) L))))) (N o14 (N o22 (N (o38 P) (N o11 (N o12 (F o11) (F o11)) (N (o198 P) (F o326) (F o454))) (N qwe (N qxf (F o294) (F o422)) (N o230 (F o11) (F o486)))) (N o54 (N o11 (N o11 (F o278) (F o406)) (N o214 (F o12) (F o11))) (N qwo (N o11 (F o310) (F o12)) (N o12 (F o374) L)))) (N o11 (N o11 (N o78 (N qw1 (F o270) (F o12)) (N o11 (F o11) (F o462))) (N qwj (N qxk (F o11) (F o430)) (N o11 (F o366) L))) (N o11 (N (o94 P) (N qxa (F o286) (F o11)) (N o222 (F o350) (F o12))) (N o11 (N (qxu P) (F o318) (F o446)) (N o254 (F o382) L))))))))
noncomputable def S5 (w:World) (os:OsState):SharedT:=⟨T5 w.params,487,(Life.mk [] [] [] 0 [] [] false #[] [] 0 false false false 0 [2000,10,10] false 0 true [] [] 0 false),(Array.mk []),(Drawn.mk 0 0 0 0),827,os⟩
noncomputable def hS5:List Stmt:=(hB.drop 16).take 9
theorem h_g5 (w:World):(fun os=>segRunT treeTable pw w m0 ann 1 282 (S4 w os) (piecesOf hS5 qsg hC (Pos.mk 257 0 263 68) [topFrame hq]))=fun os=>some (.next,S5 w os,hC,(Pos.mk 354 0 376 15)):=by kernel_rfl
noncomputable def Hz:Params→Heap:=fun P=>⟨⟨[boot_o_0 P,boot_o_1 P,boot_o_2 P,o3_5 P,boot_o_4 P,boot_o_5 P,boot_o_6 P,boot_o_7 P,boot_o_8 P,boot_o_9 P,boot_o_10 P,o11,qvr,o13,o14,o11,o12,o17,o11,o19,o20,o21,o22,o23,o24 P,o11,o26,o27,o28,o29,o11,o12,o32,o11,o34,o35,o36,o37,o38 P,qmu,o40,o41,o42,o43,o23,o45 P,o11,o12,o48,o49,o11,o51 P,o52,o53,o54,o43,o23,o57 P,o11,o12,o60,o61,o11,o63 P,o64,o65,o66,o43,o23,o69 P,o11,o12,o72,o73,o11,o75 P,o76,o77,o78,o43,o23,o81 P,o11,o83,o84,o85,o11,o12,o88,o11,o90,o91,o92,o93,o94 P,o95,o96,o97,o11,o23,qwd P,o11,qwe,qwf,qwg,o11,o12,qwh,o11,qwi,qwj,qwk,o11,o12,qwl,o11,qwm,qwn,qwo,o11,o12,qwp,o11,qwq,qwr,qws,o11,o12,qwt,o11,qwu,qwv,qww,o11,o12,qwx,o11,qwy,qwz,qw0,o11,o12,qw1,o11,qw2,qw3,qw4,o11,o12,qw5,o11,qw6,qw7,qw8,o11,o12,qw9,o11,qxa,qxb,qxc,o11,o12,qxd,o11,qxe,qxf,qxg,o11,o12,qxh,o11,qxi,qxj,qxk,o11,o12,qxl,o11,qxm,qxn,qxo,o11,o12,qxp,o11,qxq,qxr,qxs,qxt,qxu P,qxv,qxw,qxx,qxy,qxz,o11,o23,o198 P,o11,o200,o201,o202,o11,o12,o205,o11,o207,o208,o209,o11,o12,o212,o11,o214,o215,o216,o11,o12,o219,o11,o221,o222,o223,o11,o12,o226,o11,o228,o229,o230,o11,o12,o233,o11,o235,o236,o237,o11,o12,o240,o11,o242,o243,o244,o11,o12,o247,o11,o249,o250,o251,o11,o12,o254,o11,o256,o257,o258,o11,o12,o261,o11,o263,o264,o265,o11,o12,o268,o11,o270,o271,o272,o11,o12,o275,o11,o277,o278,o279,o11,o12,o282,o11,o284,o285,o286,o11,o12,o289,o290,o291,o11,o12,o294,o11,o296,o297,o298,o11,o12,o301,o11,o303,o304,o305,o306,o307 P,o308,o309,o310,o311,o312,o11,o23,o315 P,o11,o317,o318,o319,o11,o12,o322,o11,o324,o325,o326,o11,o12,o329,o11,o331,o332,o333,o11,o12,o336,o11,o338,o339,o340,o11,o12,o343,o11,o345,o346,o347,o11,o12,o350,o11,o352,o353,o354,o11,o12,o357,o11,o359,o360,o361,o11,o12,o364,o11,o366,o367,o368,o11,o12,o371,o11,o373,o374,o375,o11,o12,o378,o11,o380,o381,o382,o11,o12,o385,o11,o387,o388,o389,o11,o12,o392,o11,o394,o395,o396,o11,o12,o399,o11,o401,o402,o403,o404,o405 P,o406,o407,o408,o409,o410,o11,o12,o413,o11,o415,o416,o417,o11,o12,o420,o11,o422,o423,o424,o11,o12,o427,o11,o429,o430,o431,o11,o12,o434,o435,o436,o11,o12,o439,o440,o441,o11,o12,o444,o11,o446,o447,o448,o11,o12,o451,o11,o453,o454,o455,o11,o12,o458,o11,o460,o461,o462,o11,o12,o465,o11,o467,o468,o469,o11,o12,o472,o11,o474,o475,o476,o11,o12,o479,o480,o481,o11,o12,o484,o485,o486]⟩,(Life.mk [] [] [] 0 [] [] false #[] [] 0 false false false 0 [2000,10,10] false 0 true [] [] 0 false)⟩
noncomputable def Sz (w:World) (os:OsState):Shared:=⟨Hz w.params,(Array.mk []),(Drawn.mk 0 0 0 0),827,os⟩
theorem h_fin (w:World):(fun os=>topRun treeTable pw w m0 ann 2 (S5 w os).abs ⟨doneF .next,hC,(Pos.mk 354 0 376 15),[topFrame hq]⟩)=fun os=>some (Sz w os):=by kernel_rfl
theorem h_cat:hB=(hS0++(hS1++(hS2++(hS3++(hS4++(hS5++ [])))))):=by kernel_rfl
noncomputable def hM:Nat:=3411
theorem h_run (w:World) (os:OsState):topRun treeTable pw w m0 ann hM ⟨boot_heap w.params,Array.mk [],boot_drawn,boot_toks,os⟩ (topStub pw)=some (Sz w os):=by
 have k:=congrFun (h_fin w) os
 have k:topRun treeTable pw w m0 ann 2 (S5 w os).abs (restOf [] qsg hC (Pos.mk 354 0 376 15) [topFrame hq])=some (Sz w os):=k
 have k:=piece_app (segRun_of (congrFun (h_g5 w) os)) k
 have k:=piece_app (segRun_of (congrFun (h_g4 w) os)) k
 have k:=piece_app (segRun_of (congrFun (h_g3 w) os)) k
 have k:=piece_app (segRun_of (congrFun (h_g2 w) os)) k
 have k:=piece_app (segRun_of (congrFun (h_g1 w) os)) k
 have k:=piece_app (segRun_of (congrFun (h_g0 w) os)) k
 rw [←h_cat]at k;have k:=piece_block (congrFun (qvq w) os) k
 exact go_top (congrFun (h_pre w) os) k
noncomputable def hK:Params→Frag:=fun P=> [(0,boot_o_0 P),(1,boot_o_1 P),(2,boot_o_2 P),(3,o3_5 P),(4,boot_o_4 P),(5,boot_o_5 P),(6,boot_o_6 P),(7,boot_o_7 P),(8,boot_o_8 P),(9,boot_o_9 P),(10,boot_o_10 P),(11,o11),(12,qvr),(13,o13),(14,o14),(15,o11),(16,o12),(17,o17),(18,o11),(19,o19),(20,o20),(21,o21),(22,o22),(23,o23),(24,o24 P),(25,o11),(26,o26),(27,o27),(28,o28),(29,o29),(30,o11),(31,o12),(32,o32),(33,o11),(34,o34),(35,o35),(36,o36),(37,o37),(38,o38 P),(39,qmu),(40,o40),(41,o41),(42,o42),(43,o43),(44,o23),(45,o45 P),(46,o11),(47,o12),(48,o48),(49,o49),(50,o11),(51,o51 P),(52,o52),(53,o53),(54,o54),(55,o43),(56,o23),(57,o57 P),(58,o11),(59,o12),(60,o60),(61,o61),(62,o11),(63,o63 P),(64,o64),(65,o65),(66,o66),(67,o43),(68,o23),(69,o69 P),(70,o11),(71,o12),(72,o72),(73,o73),(74,o11),(75,o75 P),(76,o76),(77,o77),(78,o78),(79,o43),(80,o23),(81,o81 P),(82,o11),(83,o83),(84,o84),(85,o85),(86,o11),(87,o12),(88,o88),(89,o11),(90,o90),(91,o91),(92,o92),(93,o93),(94,o94 P),(95,o95),(96,o96),(97,o97),(98,o11),(99,o23),(100,qwd P),(101,o11),(102,qwe),(103,qwf),(104,qwg),(105,o11),(106,o12),(107,qwh),(108,o11),(109,qwi),(110,qwj),(111,qwk),(112,o11),(113,o12),(114,qwl),(115,o11),(116,qwm),(117,qwn),(118,qwo),(119,o11),(120,o12),(121,qwp),(122,o11),(123,qwq),(124,qwr),(125,qws),(126,o11),(127,o12),(128,qwt),(129,o11),(130,qwu),(131,qwv),(132,qww),(133,o11),(134,o12),(135,qwx),(136,o11),(137,qwy),(138,qwz),(139,qw0),(140,o11),(141,o12),(142,qw1),(143,o11),(144,qw2),(145,qw3),(146,qw4),(147,o11),(148,o12),(149,qw5),(150,o11),(151,qw6),(152,qw7),(153,qw8),(154,o11),(155,o12),(156,qw9),(157,o11),(158,qxa),(159,qxb),(160,qxc),(161,o11),(162,o12),(163,qxd),(164,o11),(165,qxe),(166,qxf),(167,qxg),(168,o11),(169,o12),(170,qxh),(171,o11),(172,qxi),(173,qxj),(174,qxk),(175,o11),(176,o12),(177,qxl),(178,o11),(179,qxm),(180,qxn),(181,qxo),(182,o11),(183,o12),(184,qxp),(185,o11),(186,qxq),(187,qxr),(188,qxs),(189,qxt),(190,qxu P),(191,qxv),(192,qxw),(193,qxx),(194,qxy),(195,qxz),(196,o11),(197,o23),(198,o198 P),(199,o11),(200,o200),(201,o201),(202,o202),(203,o11),(204,o12),(205,o205),(206,o11),(207,o207),(208,o208),(209,o209),(210,o11),(211,o12),(212,o212),(213,o11),(214,o214),(215,o215),(216,o216),(217,o11),(218,o12),(219,o219),(220,o11),(221,o221),(222,o222),(223,o223),(224,o11),(225,o12),(226,o226),(227,o11),(228,o228),(229,o229),(230,o230),(231,o11),(232,o12),(233,o233),(234,o11),(235,o235),(236,o236),(237,o237),(238,o11),(239,o12),(240,o240),(241,o11),(242,o242),(243,o243),(244,o244),(245,o11),(246,o12),(247,o247),(248,o11),(249,o249),(250,o250),(251,o251),(252,o11),(253,o12),(254,o254),(255,o11),(256,o256),(257,o257),(258,o258),(259,o11),(260,o12),(261,o261),(262,o11),(263,o263),(264,o264),(265,o265),(266,o11),(267,o12),(268,o268),(269,o11),(270,o270),(271,o271),(272,o272),(273,o11),(274,o12),(275,o275),(276,o11),(277,o277),(278,o278),(279,o279),(280,o11),(281,o12),(282,o282),(283,o11),(284,o284),(285,o285),(286,o286),(287,o11),(288,o12),(289,o289),(290,o290),(291,o291),(292,o11),(293,o12),(294,o294),(295,o11),(296,o296),(297,o297),(298,o298),(299,o11),(300,o12),(301,o301),(302,o11),(303,o303),(304,o304),(305,o305),(306,o306),(307,o307 P),(308,o308),(309,o309),(310,o310),(311,o311),(312,o312),(313,o11),(314,o23),(315,o315 P),(316,o11),(317,o317),(318,o318),(319,o319),(320,o11),(321,o12),(322,o322),(323,o11),(324,o324),(325,o325),(326,o326),(327,o11),(328,o12),(329,o329),(330,o11),(331,o331),(332,o332),(333,o333),(334,o11),(335,o12),(336,o336),(337,o11),(338,o338),(339,o339),(340,o340),(341,o11),(342,o12),(343,o343),(344,o11),(345,o345),(346,o346),(347,o347),(348,o11),(349,o12),(350,o350),(351,o11),(352,o352),(353,o353),(354,o354),(355,o11),(356,o12),(357,o357),(358,o11),(359,o359),(360,o360),(361,o361),(362,o11),(363,o12),(364,o364),(365,o11),(366,o366),(367,o367),(368,o368),(369,o11),(370,o12),(371,o371),(372,o11),(373,o373),(374,o374),(375,o375),(376,o11),(377,o12),(378,o378),(379,o11),(380,o380),(381,o381),(382,o382),(383,o11),(384,o12),(385,o385),(386,o11),(387,o387),(388,o388),(389,o389),(390,o11),(391,o12),(392,o392),(393,o11),(394,o394),(395,o395),(396,o396),(397,o11),(398,o12),(399,o399),(400,o11),(401,o401),(402,o402),(403,o403),(404,o404),(405,o405 P),(406,o406),(407,o407),(408,o408),(409,o409),(410,o410),(411,o11),(412,o12),(413,o413),(414,o11),(415,o415),(416,o416),(417,o417),(418,o11),(419,o12),(420,o420),(421,o11),(422,o422),(423,o423),(424,o424),(425,o11),(426,o12),(427,o427),(428,o11),(429,o429),(430,o430),(431,o431),(432,o11),(433,o12),(434,o434),(435,o435),(436,o436),(437,o11),(438,o12),(439,o439),(440,o440),(441,o441),(442,o11),(443,o12),(444,o444),(445,o11),(446,o446),(447,o447),(448,o448),(449,o11),(450,o12),(451,o451),(452,o11),(453,o453),(454,o454),(455,o455),(456,o11),(457,o12),(458,o458),(459,o11),(460,o460),(461,o461),(462,o462),(463,o11),(464,o12),(465,o465),(466,o11),(467,o467),(468,o468),(469,o469),(470,o11),(471,o12),(472,o472),(473,o11),(474,o474),(475,o475),(476,o476),(477,o11),(478,o12),(479,o479),(480,o480),(481,o481),(482,o11),(483,o12),(484,o484),(485,o485),(486,o486)]
noncomputable def qsh:List Addr:=List.range 487
noncomputable def hN:Nat:=487
noncomputable def hT:Nat:=827
end
end Mine.H
end
noncomputable section
namespace Mine.H
noncomputable section
open PySem PySem.W PySem.W.X PyProof.Rows
noncomputable def qcq:Program:= {pw with main:= {pw.main with body:= [st 0,st 2,st 3,st 4,st 5,st 6,st 8,st 9,st 11,st 12,st 14,st 15,st 16,st 17,st 18,st 19,st 20,st 21,st 22,st 23,st 24]}}
noncomputable def qe4:List Str:= [Str.ofString "BoardError"]
noncomputable abbrev hR:RowW:=OpenRow.toRowW (OpenLaw.row PySem.Challenge.rw_up0077_01)
noncomputable def hXt (s:Shared):Bool:=xlAt qcq [] s&&recOk (RowW.records hR) s
noncomputable def hNN:Nat:=6906
theorem h_open: ∀w:World,(fencedOpening treeTable pw w hNN).map (fun s=>(s.heap,s.gens,s.drawn,s.toks))=some (boot_heap w.params,Array.mk [],boot_drawn,boot_toks):=
 boot_open (p:=pw) (N:=hNN) (by kernel_rfl) (by decide+kernel) (fun s=>by kernel_rfl)
theorem h_size (w:World):((boot_heap w.params).isNs mainGlobals&&(Array.mk []:Array GenState).size==0,(boot_heap w.params).objs.size,(boot_heap w.params).nsMap mainGlobals "__annotations__")=(true,m0,ann):=by kernel_rfl
noncomputable abbrev mods:List Str:=importedModules pw.main.body
theorem l_1 (w:World):(fun os=>(staticsOk mods (boot_heap w.params) (Hz w.params)&&namesBound pw (Hz w.params)&&gensDone (Sz w os)&&laidKept (boot_heap w.params) (Hz w.params)))=fun _=>true:=by kernel_rfl
theorem l_2 (w:World):(fun os=>seen ((recsOf qcq).map (·.name)) (ownsOf qcq) [] {(Sz w os)with gens:= #[]})=fun _=>expectedOf qcq:=by kernel_rfl
theorem l_3 (w:World):(fun os=>(Sz w os).heap.bltView)=fun _=>bltViewBooted:=by kernel_rfl
theorem l_4 (w:World):(fun os=>(Sz w os).heap.keysOk (looseW qcq qe4) ((recsOf qcq).map (·.name)) ((litsOf qcq).map (·.1)) ((clssOf qcq (looseW qcq qe4)).map (·.name))&&(Sz w os).heap.accountedOkI mods&&(Sz w os).heap.isNs mainGlobals&&(Sz w os).heap.isNs builtinsNs&&tablesOk qcq (Sz w os).heap&&hXt (Sz w os)&&(if true then(Sz w os).gens.size==0 else !leftWithCleanup (Sz w os).gens))=fun _=>true:=by kernel_rfl
theorem l_5 (w:World):(fun os=>tabsOk qcq (Sz w os))=fun _=>true:=by kernel_rfl
theorem l_6 (w:World):(fun os=>pinSeenD qcq (drecsOf qcq) (Sz w os))=fun _=>pinGoodD (drecsOf qcq):=by kernel_rfl
theorem l_7 (w:World):(fun os=>plainSeenE qcq (looseW qcq qe4) (Sz w os))=fun _=>plainGoodE qcq (looseW qcq qe4):=by kernel_rfl
theorem l_8 (w:World):(fun os=>plainSeenD qcq qe4 (Sz w os))=fun _=>plainGoodD qcq qe4:=by kernel_rfl
theorem l_9 (w:World):(fun os=>wideSeen qcq (Sz w os))=fun _=>wideGood qcq:=by kernel_rfl
theorem l_10 (w:World):(fun os=>clsSeenW qcq qe4 (Sz w os))=fun _=>clsGoodW qcq qe4:=by kernel_rfl
theorem l_11 (w:World):(fun os=>obsZ qsh (Sz w os))=fun _=>valZ hK hN hT w:=by kernel_rfl
theorem tup9 {α₁ α₂ α₃ α₄ α₅ α₆ α₇ α₈ α₉:Type} {a₁ b₁:α₁} {a₂ b₂:α₂} {a₃ b₃:α₃} {a₄ b₄:α₄} {a₅ b₅:α₅} {a₆ b₆:α₆} {a₇ b₇:α₇} {a₈ b₈:α₈} {a₉ b₉:α₉}
 (h1:a₁=b₁) (h2:a₂=b₂) (h3:a₃=b₃) (h4:a₄=b₄) (h5:a₅=b₅) (h6:a₆=b₆) (h7:a₇=b₇) (h8:a₈=b₈) (h9:a₉=b₉):(a₁,a₂,a₃,a₄,a₅,a₆,a₇,a₈,a₉)=(b₁,b₂,b₃,b₄,b₅,b₆,b₇,b₈,b₉):=by
 subst h1 h2 h3 h4 h5 h6 h7 h8 h9;rfl
theorem h_left:LeftO pw qcq qe4 hXt (obsZ qsh) (valZ hK hN hT) hNN:=
 LeftO.of_pieces (H₀:=boot_heap) (H₁:=Hz) (gs₀:=Array.mk []) (d₀:=boot_drawn) (k₀:=boot_toks) h_open h_size h_run (by decide+kernel) (fun w=>funext fun os=>
  looks_pair (congrFun (l_1 w) os) (looks_pair (tup9 (congrFun (l_2 w) os) (congrFun (l_3 w) os) (congrFun (l_4 w) os) (congrFun (l_5 w) os) (congrFun (l_6 w) os) (congrFun (l_7 w) os) (congrFun (l_8 w) os) (congrFun (l_9 w) os) (congrFun (l_10 w) os)) (congrFun (l_11 w) os)))
theorem qts (P:Params):qsh=(hK P).map (·.1):=by kernel_rfl
end
end Mine.H
end
noncomputable section
namespace Mine.H
open PySem PySem.W PySem.W.X PyProof.Rows
noncomputable section
noncomputable def lawD:DefRec:= {name:=Str.ofString "law",params:=fA (st 24),body:=fB (st 24),scope:=fS (st 24),pos:=⟨354,0,376,15⟩}
theorem h_def:defOf qcq (Str.ofString "law")=some (lawD,[]):=by kernel_rfl
theorem h_the:pw.theDef (Str.ofString "law")=some (lawD.params,lawD.body,lawD.scope):=by kernel_rfl
theorem h_kw:kwWritten? lawD.params.kwonlyargs lawD.params.kw_defaults=some []:=by kernel_rfl
end
end Mine.H
end
noncomputable section
namespace Mine
open PySem PySem.Calls PyProof.Rows PySem.W
open Sem (wp)
noncomputable def qqg:Value→Bool| .none=>true|_=>false
theorem qqh {v:Value} (h:qqg v=true):v= .none:=by cases v<;>first|rfl|exact absurd h Bool.false_ne_true
noncomputable def fdIn (K:Frag) (a:Nat):Option FuncData:=match K.lookup a with
 |some ⟨_,_,.func fd,_⟩=>some fd
 |_=>none
noncomputable def fnChk (K:Frag) (a:Nat) (D:Def):Bool:=match fdIn K a with
 |none=>false
 |some fd=>fd.closure.isEmpty&&qqg fd.defaults&&fd.params.posonlyargs.isEmpty&&fd.params.vararg.isNone&&fd.params.kwonlyargs.isEmpty&&fd.params.kwarg.isNone&&decide (fd.globals=mainGlobals)&&decide (fd.builtins=builtinsNs)&&
   !fd.scope.isCoroutine&& !fd.scope.isGenerator&&decide (fd.scope.kind= .function)&&codeIn K fd.code fd.qualname&&decide (fd.params.args.map (·.arg)=D.params.map Str.ofString)&&decide D.params.Nodup&&D.params.all (fun p=>qbi fd.scope (Str.ofString p))
noncomputable def qtt (K:Frag) (a:Nat):Option (Option (List MS)):=(fdIn K a).map fun fd=>match fd.body with
 | .stmts b=>cSs fd.scope 60 b
 |_=>none
theorem c_chk (p:Params):fnTable.all (fun t=>fnChk (H.hK p) t.2.2 t.2.1)=true:=by kernel_rfl
theorem c_body (p:Params):fnTable.map (fun t=>qtt (H.hK p) t.2.2)=fnTable.map (fun t=>some (some t.2.1.body)):=by kernel_rfl
theorem qhx {α β:Type} [BEq α] [LawfulBEq α]: ∀{l:List (α×β)} {x:α} {y:β},l.lookup x=some y→(x,y)∈l
 |(a,b)::l,x,y,h=>by
  rw [List.lookup_cons]at h;cases hb:x==a with
  |true=>rw [hb]at h;cases h;rw [eq_of_beq hb];exact .head _
  |false=>rw [hb]at h;exact .tail _ (qhx h)
theorem qtu {f:Fn} {D:Def} (h:Pm f=some D):(f,D,fAm f)∈fnTable:=by
 obtain⟨⟨D',a⟩,h1,h2⟩:=qah h
 have:=qhx h1
 cases h2
 unfold fAm;rw [h1];exact this
set_option tactic.hygienic true in
theorem qqi {w:World} {S:qc5 prog w} {p:Params} (hK:S.K=H.hK p) {f:Fn} {D:Def} (h:Pm f=some D):FnOK S (fAm f) D:=by
 have hm:=qtu h
 have h1:=List.all_eq_true.mp (c_chk p) _ hm
 have h2:=List.map_inj_left.mp (c_body p) _ hm
 dsimp only at h1 h2;unfold fnChk at h1;unfold qtt at h2;split at h1
 ·cases h1
 ·next fd hfd=>
  rw [hfd]at h2;simp only [Option.map_some,Option.some.injEq]at h2;simp only [Bool.and_eq_true,decide_eq_true_eq,Bool.not_eq_true',List.isEmpty_iff,Option.isNone_iff_eq_none]at h1;obtain⟨⟨⟨⟨⟨⟨⟨⟨⟨⟨⟨⟨⟨⟨a1,a2⟩,a3⟩,a4⟩,a5⟩,a6⟩,a7⟩,a8⟩,a9⟩,a10⟩,a11⟩,a12⟩,a13⟩,a14⟩,a15⟩:=h1
  unfold fdIn at hfd;split at hfd
  ·next oc od fd' sl ho=>
   cases hfd
   split at h2
   ·next body hb=>
    exact fun G k=>k _ fd body 60 (S.X _ _ (hK ▸ ho)) rfl hb a1 (qqh a2) a3 a4 a5 a6 a7 a8 a9 a10 a11 (codeRec_of S.X (hK ▸ a12)) a13 a14 (fun q hq=>List.all_eq_true.mp a15 q hq) h2
   ·cases h2
  ·cases hfd
set_option tactic.hygienic true in
theorem qlg {K:Frag} {h:Heap} {N:Addr} {n:Str} {r:Option Value} (X:K.In h) (e:nsIn K N n=some r):h.nsMap N n=r:=by
 unfold nsIn at e;split at e
 ·rename_i c d es' n' sl q
  unfold Heap.nsMap;rw [X _ _ q];show nsFind es' n=r
  unfold nsFind findBy;rw [←Array.find?_toList];split at e
  ·next x hx=>cases e;rw [hx];rfl
  ·next hx=>
   split at e
   ·cases e
   ·cases e;rw [hx];rfl
 ·cases e
theorem c_ns (p:Params):(nsOkIn (H.hK p) mainGlobals,nsOkIn (H.hK p) builtinsNs,nsOkIn (H.hK p) cStatics,nsIn (H.hK p) cStatics "sys.recursionlimit")=(true,true,true,some none):=by kernel_rfl
theorem qvs (p:Params):funNames.map (fun x=>nsIn (H.hK p) mainGlobals (Str.ofString x))=funNames.map (fun x=>some (some (.ref (fAm (.f x))))):=by kernel_rfl
theorem qvt (p:Params) (c:Cls):nsIn (H.hK p) mainGlobals (Str.ofString (qdv c))=some (some (.ref (cAm c))):=by cases c<;>kernel_rfl
noncomputable def bltL:List (String×Value):= [("len",.builtin "len"),("bytes",.type "bytes"),("bytearray",.type "bytearray"),("list",.type "list"),("dict",.type "dict"),("sorted",.builtin "sorted"),("range",.type "range"),
  ("reversed",.type "reversed"),("enumerate",.type "enumerate"),("isinstance",.builtin "isinstance"),("int",.type "int")]
theorem qvu (p:Params):bltL.map (fun x=>(nsIn (H.hK p) mainGlobals (Str.ofString x.1),nsIn (H.hK p) builtinsNs (Str.ofString x.1)))=bltL.map (fun x=>(some none,some (some x.2))):=by kernel_rfl
theorem qvv (p:Params) (c:Cls):makesIn (H.hK p) (cAm c)=true:=by cases c<;>kernel_rfl
theorem c_ga (p:Params) (c:Cls):findIn (H.hK p) (.ref (cAm c)) "__getattribute__" =some (some (.builtin "object.__getattribute__")):=by cases c<;>kernel_rfl
theorem c_gt (p:Params) (c:Cls):findIn (H.hK p) (.ref (cAm c)) "__getattr__" =some none:=by cases c<;>kernel_rfl
theorem c_sa (p:Params) (c:Cls):findIn (H.hK p) (.ref (cAm c)) "__setattr__" =some (some (.builtin "object.__setattr__")):=by cases c<;>kernel_rfl
theorem c_po (p:Params) (c:Cls):plainOver (H.hK p) (cAm c)=true:=by cases c<;>kernel_rfl
theorem c_fld (p:Params) (c:Cls):fieldNames.map (fun x=>findIn (H.hK p) (.ref (cAm c)) (Str.ofString x))=fieldNames.map (fun _=>some none):=by cases c<;>kernel_rfl
theorem c_cd (p:Params) (c:Cls):(clsIn (H.hK p) (cAm c)).any (·.hasDict)=true:=by cases c<;>kernel_rfl
noncomputable def methL:List (Cls×String):=fnTable.filterMap fun t=>match t.1 with| .m c x=>some (c,x)|_=>none
theorem c_meth (p:Params):methL.map (fun t=>(findIn (H.hK p) (.ref (cAm t.1)) (Str.ofString t.2),typeIn (H.hK p) (.ref (fAm (.m t.1 t.2))),decide (t.2∉fieldNames)))=methL.map (fun t=>(some (some (.ref (fAm (.m t.1 t.2)))),some (.type "function"),true)):=by kernel_rfl
noncomputable def nAm:Cls→Nat| .buffer=>190| .cache=>307| .disk=>405
theorem c_eq (p:Params) (c:Cls):(nsOkIn (H.hK p) (nAm c),nsIn (H.hK p) (nAm c) "__eq__",nsIn (H.hK p) (nAm c) "__ne__")=(true,some none,some none):=by cases c<;>kernel_rfl
noncomputable def clsT:Cls→Nat×Nat| .buffer=>(299,307)| .cache=>(424,432)| .disk=>(577,585)
theorem c_cls (p:Params) (c:Cls):(H.hK p).lookup (cAm c)=some (excClassObj (Str.ofString (qdv c)) (Str.ofString (qdv c)) (cAm c) (nAm c) [.type "object"] [.type "object"] true [] [] false none none none none (some (.str (Str.ofString (qdv c)) (clsT c).1)) (some (.str (Str.ofString (qdv c)) (clsT c).2)) (some (.bool true)) "object.__new__"):=by cases c<;>kernel_rfl
theorem PF_of {w:World} {S:qc5 prog w} {p:Params} (hK:S.K=H.hK p) (hc:S.cA=cAm): ∃F:PF S Pm,F.fA=fAm:=by
 obtain⟨B,K,X,cA,sysM⟩:=S
 dsimp only at hK hc;subst hK hc;have e:=c_ns p
 simp only [Prod.mk.injEq]at e;obtain⟨e1,e2,e3,e4⟩:=e
 refine⟨{
  mg:=B.nsMap mainGlobals,mb:=B.nsMap builtinsNs,fA:=fAm
  hg:= .of_isNs (isNs_of_in X e1),hb:= .of_isNs (isNs_of_in X e2)
  lim:=⟨_,.of_isNs (isNs_of_in X e3),qlg X e4⟩
  cf:=fun c=>⟨c_ga p c,c_gt p c,c_sa p c,c_po p c,fun x hx=>List.map_inj_left.mp (c_fld p c) x hx,c_cd p c⟩
  fname:=fun x hx=>qlg X (List.map_inj_left.mp (qvs p) x hx)
  cname:=fun c=>qlg X (qvt p c)
  bname:=fun x v hx=>?_
  cmp:=fun c=>?_
  makes:=qvv p
  meth:=fun c x hx=>?_
  isFn:=fun f hf=>?_},rfl⟩
 ·have:=List.map_inj_left.mp (qvu p) (x,v) hx
  simp only [Prod.mk.injEq]at this;exact⟨qlg X this.1,qlg X this.2⟩
 ·have:=c_eq p c
  simp only [Prod.mk.injEq]at this;exact⟨nAm c,_,⟨⟨_,_,_,_,_,_,_,_,_,_,_,_,X _ _ (c_cls p c)⟩,.of_isNs (isNs_of_in X this.1)⟩,qlg X this.2.1,qlg X this.2.2⟩
 ·obtain⟨D,hD⟩:=Option.ne_none_iff_exists'.mp hx
  have hm:(c,x)∈methL:=List.mem_filterMap.mpr ⟨_,qtu hD,rfl⟩
  have:=List.map_inj_left.mp (c_meth p) _ hm
  simp only [Prod.mk.injEq,decide_eq_true_eq]at this;exact this
 ·obtain⟨D,hD⟩:=Option.ne_none_iff_exists'.mp hf
  exact qqi (S:=⟨B,H.hK p,X,cAm,sysM⟩) (p:=p) rfl hD _ fun o fd _ _ h1 h2 _ _ _ _ _ _ _ _ _ _ _ _ _ _ _ _ _=>⟨o,fd,h1,h2⟩
end Mine
end
noncomputable section
namespace Mine
open PySem PySem.Spec PySem.Calls PyProof.Rows PySem.W PySem.W.X
open Sem (wp)
theorem qqj:Cl (⟨.builtin "claim.caller" {},none,none,[],none⟩:PySem.Ctx):=⟨by decide,fun _ h=>by cases h⟩
theorem qsi {prog:Program} {w:World} {t:Sem Fin} {s:Shared} {R:Result→Shared→Prop} (hz:s.asleep)
  (h:qas (model prog w) callerA t (fun fin s'=> ∃f,fin= .done f∧(R (.ok f) s'∧leftWithCleanup s'.gens=false)) s):
  ∃n r s' s'',runN (denote table) prog w n s ⟨t,.builtin "claim.caller" {},default,[]⟩= .halted (outcomeOf r) s'∧
   schedN (denote table) prog w n (.single s ⟨t,.builtin "claim.caller" {},default,[]⟩)= .halted (outcomeOf r) s'∧s'.forget=s''.forget∧R r s'':=by
 have hw:wp (model prog w) ⟨.builtin "claim.caller" {},none,none,[],none⟩ t (Sem.finPost (model prog w) ⟨.builtin "claim.caller" {},none,none,[],none⟩ fun r s'=>R r s'∧leftWithCleanup s'.gens=false)
   (fun e _ s'=>R (.error e) s'∧leftWithCleanup s'.gens=false) default s:=by
  refine Sem.wp_mono _ _ t (fun fin p' s' h'=>?_) (fun _ _ _ h'=>h'.elim) default s (h _ default caller_in qqj)
  refine qac h' fun f e0_1 q=>?_;subst e0_1
  exact q
 refine qri (wp_halts_full (M:=model prog w) (R:=R) hz hw) fun n r sa sb h1 h2 h3 h4=>?_
 exact⟨n,r,sb,sa,h2,h1,h3,h4⟩
theorem ex_mk {α β γ δ ε:Sort _} {P0:α→β→Prop} {P1 P2 P3 P4 P5 P6:α→β→γ→δ→ε→Prop} (a:α) (b:β) (h0:P0 a b) (c:γ) (d:δ) (e:ε) (h1:P1 a b c d e) (h2:P2 a b c d e) (h3:P3 a b c d e) (h4:P4 a b c d e) (h5:P5 a b c d e) (h6:P6 a b c d e):
  ∃a b,P0 a b∧ ∃c d e,P1 a b c d e∧P2 a b c d e∧P3 a b c d e∧P4 a b c d e∧P5 a b c d e∧P6 a b c d e:=⟨a,b,h0,c,d,e,h1,h2,h3,h4,h5,h6⟩
theorem qou {c:ClaimW} {tree:List Value→Sem Fin} {w:World} {s:Shared} {free:Addr→Prop} {gens:Prop} {kept:Heap→Prop} (hz:s.asleep) (hgens:s.gens= #[])
  (hspec: ∀args,c.pre args=true→WData.layableAll args=true→ ∀ord:List DictEntry→List DictEntry,(∀l,(ord l).Perm l)→
   ∃vs s₁,layAllW c.records (classAt s.heap) w.params ord args s=some (vs,s₁)∧
    qas (model c.prog w) callerA (tree vs) (fun fin s'=> ∃f,fin= .done f∧(c.Ends s args vs s₁ (.ok f) s'∧s'.os=s.os∧AllBare s'.gens∧kept s'.heap)) s₁):
  c.CallFrom (fun vs=>⟨tree vs,.builtin "claim.caller" {},default,[]⟩) w free gens kept s:=by
 intro args hpre hlay ord hord;refine qrh fun G put=>?_
 refine qcv (hspec args hpre hlay ord hord) fun vs s₁ hl hk=>?_
 have rest:=layAllW_rest _ _ _ hl
 refine qri (qsi (prog:=c.prog) (w:=w) (t:=tree vs) (s:=s₁) (R:=fun r s'=>c.Ends s args vs s₁ r s'∧s'.os=s.os∧kept s'.heap) (Shared.asleep_of_life rest.2.2.2 hz)
  (k_mono hk fun fin s' ⟨f,e,q1,q2,q3,q4⟩=>⟨f,e,⟨q1,q2,q4⟩,leftWithCleanup_false_of_bare q3⟩)) fun k r sb sa hrun hsched hf hR=>?_
 refine qeg hR fun hends hos hkp=>?_
 refine qnr (Shared.forget_eq hf) fun eh _ _ eo _=>?_
 replace hends:=hends.congr eh
 rw [←eh]at hkp;rw [←eo]at hos;refine put (ex_mk vs s₁ hl k _ sb hsched ?_ (fun _ i x hx=>by rw [hgens]at hx;simp at hx) hkp (by rw [show sb.heap.life=s.heap.life from(runN_life _ _ _ hrun).trans rest.2.2.2]) (Shared.rest_eq hos))
 clear hspec put hsched hf hkp hos eh hk hl;refine hends.imp (fun h=>?_) fun h=>?_
 ·refine qac h fun v er h=>?_
  refine qnr h fun d1 d2 d3 d4 d5=>?_
  exact⟨v,by rw [er];rfl,d1,d2,d3,fun b o y _=>d4 b o y,d5⟩
 ·refine qga h fun e ob cls er h=>?_
  refine qnr h fun d1 d2 d3 d4 d5=>?_
  exact⟨e,ob,cls,by rw [er];rfl,d1,d2,d3,d4,fun b o y _=>d5 b o y⟩
theorem holds_k {r:OpenRow} {q:Program} {loose:List Str} {Xt:Shared→Bool} {XP:(Str→Option Value)→Heap→Prop} {α:Type} {Yf:Shared→α} {Ya:World→α} {d:DefRec} {kwd:List (Str×Expr)} {N:Nat}
  (left:LeftO r.prog q loose Xt Yf Ya N)
  (hX: ∀s,Xt s=true→XP (s.heap.nsMap mainGlobals) s.heap) (hXk: ∀mg h h',XP mg h→(∀b o,h.get? b=some o→h'.get? b=some o)→XP mg h')
  (hdef:defOf q r.name=some (d,kwd)) (hp:r.prog.theDef r.name=some (d.params,d.body,d.scope)) (hk:kwWritten? d.params.kwonlyargs d.params.kw_defaults=some kwd) (hRf: ∀s,Xt s=true→RecFacts r.records s.heap) (hwr:(!r.writes||r.records.isEmpty)=true)
  (k1:r.wellSaid=true) (ok:(chainsOk q&&opensWell r.prog&&(frees r.toRowW&&r.within.isEmpty))=true) (hb:r.prog.bare) (hw:r.toRowW.promised)
  (call: ∀(w:World) (s₀ s₁:Shared) (mg mb:Str→Option Value),Ground q loose r.toRowW.records XP w s₀ mg mb s₁.heap→Yf s₀=Ya w→ ∀(a:Addr),mg r.name=some (.ref a)→s₁.gens= #[]→
   ∀(args:List WData) (vals:List Value) (as:List Addr),Laid r.toRowW.records w s₀ s₁ args vals as→r.toRowW.claim.pre args=true→WData.layableAll args=true→
    qas (model r.toRowW.prog w) callerA (PySem.call (.ref a) vals) (fun v s'=>GoodWG r.toRowW.claim (classAt s₀.heap) (ExcName.means s₀.heap) args s₁ (.ok (.ret v)) s') s₁):r.Holds:=by
 refine qa1 (Bool.and_eq_true_iff.mp ok) fun okA okB=>?_
 refine qa1 (Bool.and_eq_true_iff.mp okA) fun hch hop=>?_
 refine qa1 (Bool.and_eq_true_iff.mp okB) fun hfr hwi=>?_
 refine qnr (frees_parts hfr) fun hsame hu ha hap hm=>?_
 refine⟨k1,hw,⟨hb,hop,by show r.toRowW.makers.map _= [];rw [hm];rfl⟩,hw.witness,fun w=>⟨(left.behind hX hch w).1,fun s' hs'=>?_⟩⟩
 refine qrh fun Go out=>?_
 obtain⟨s₀,hf,hg0,s,hT,hz,hgens,hg,G00,y⟩:=(left.behind (XP:=fun mg h=>XP mg h∧RecFacts r.toRowW.records h) (fun s hs=>⟨hX s hs,hRf s hs⟩) hch w).2 s' hs'
 have G0:Ground q loose [] XP w s (s.heap.nsMap mainGlobals) (s.heap.nsMap builtinsNs) s.heap:=⟨G00.T,G00.B,G00.D,G00.TE,G00.TD,G00.W,G00.X.1,G00.cls,G00.has,G00.apart,G00.once,G00.K⟩
 have RF:=G00.X.2
 have hgens:s.gens= #[]:=Array.eq_empty_of_size_eq_zero (beq_iff_eq.mp hgens)
 have G:Ground q loose r.toRowW.records XP w s _ _ s.heap:=RF.ground G0
 refine out ⟨s₀,hf,hg0,s,hT,fun n hn=>?_,RF.1,RF.2.1,?_⟩
 ·obtain rfl:n=r.name:=by split at hn<;>simp_all
  exact pinned_of_view hg G0 hdef hp hk
 refine qou (c:=r.toRowW.claim) hz hgens fun args hpre hlay ord hord=>?_
 clear out left;refine qrh fun Go put=>?_
 refine qaj (Option.isSome_iff_exists.mp (layAllW_isSome (P:=w.params) (ord:=ord) G.has args r.toRowW.args s (pre_splitW hpre).1)) fun z10_0 hl=>?_;obtain⟨vs,s₁⟩:=z10_0
 have keeps:=layAllW_keeps _ _ _ hl
 have rest:=layAllW_rest _ _ _ hl
 refine qao (reads_layAllW hord _ _ _ hl hlay s₁.heap (fun _ _ e=>e)) fun as hrd hin hold=>?_
 have L:Laid r.toRowW.records w s s₁ args vs as:=⟨⟨ord,hord,hl⟩,hrd,hin,hold,keeps,rest.1.trans hgens,rest.2.2.1⟩
 have G₁:=G.keeps hXk keeps
 refine ex7_5 (G₁.fn hdef) fun a o pm cd doc dV kV h1 _ _ _ _=>?_
 have h1:s.heap.nsMap mainGlobals r.name=some (.ref a):=h1
 have hi:=ident_freeW hu ha hap
 have hwi:r.toRowW.claim.within= []:=List.isEmpty_iff.mp hwi
 refine put ⟨vs,s₁,hl,qbc (wpAny_nsGet G₁.T.g ?_)⟩
 rw [h1];refine qab (k_mono (call w s s₁ _ _ G₁ y a h1 L.gens args vs as L hpre hlay) fun v s' g=>qad ⟨_,rfl,?_⟩)
 have z:=g.laid (c:=r.toRowW.claim) hsame hwi hi L
 exact⟨z.1,z.2.1,z.2.2,fun q=>⟨namesKept_of hT hg _ keeps g.2.1.old,noTable hwr q⟩⟩
end Mine
end
noncomputable section
namespace Mine
noncomputable def st0 (script:List Int):St:=⟨fun l=>if l= .list 0 then some (.list (script.map .int))else none,1⟩
noncomputable def LawTrue:Prop:= ∀ns:List Int,ns.length≤63→ ∃d σ',d≤100∧qag Pm d (.f "law") [.ref (.list 0)] (st0 ns)=some (.bool true,σ')
section
open PySem PySem.Spec PySem.Calls PyProof.Rows PySem.W PySem.W.X
theorem qov {ρ:Rho} {k:Nat}: ∀{its:List Value} {ns:List Int},IntsAre its ns→All2 (VR ρ k) (ns.map V.int) its:=by
 intro its ns h
 induction h with
 |nil=>exact .nil
 |cons _ _ _ ih=>exact .cons ⟨_,rfl⟩ ih
theorem walk_ok (hB:LawTrue) {w:World} {s₁:Shared} {mg:Str→Option Value} {fa a:Addr} {ns:List Int} {its:List Value} (hNs:s₁.heap.Ns mainGlobals mg) (X:(H.hK w.params).In s₁.heap) (hmg:mg (Str.ofString "law")=some (.ref fa))
  (ho:s₁.heap.get? a=some {cls:= .type "list",data:= .seq its.toArray}) (hI:IntsAre its ns) (hlen:ns.length≤63):
  qas (model prog w) callerA (PySem.call (.ref fa) [.ref a]) (fun v s'=>v= .bool true∧(∀b o,s₁.heap.get? b=some o→s'.heap.get? b=some o)∧s'.os=s₁.os∧s'.gens=s₁.gens) s₁:=by
 refine qcv (hB ns hlen) fun d σ' hd hrun=>?_
 have hsys:(s₁.heap.get? sysModules).isSome=true:=by
  have:((H.hK w.params).lookup sysModules).isSome=true:=by generalize w.params=p;kernel_rfl
  refine qaj (Option.isSome_iff_exists.mp this) fun o q=>?_
  rw [X _ _ q];rfl
 let S:qc5 prog w:=⟨s₁.heap,H.hK w.params,X,cAm,hsys⟩
 refine qaj (PF_of (S:=S) (p:=w.params) rfl rfl) fun F hF=>?_
 have hlaw:nsIn (H.hK w.params) mainGlobals (Str.ofString "law")=some (some (.ref (fAm (.f "law")))):=by generalize w.params=p;kernel_rfl
 have hfa:fa=fAm (.f "law"):=by
  have e:=qlg X hlaw
  rw [←hNs.eq_nsMap,hmg]at e;cases e;rfl
 have R:Rel S (fun _=>a) (st0 ns) s₁:= {
  base:=fun b o e=>e
  fresh:=fun l hc hl=>by
   exfalso
   cases l<;>simp [qdw,st0]at hc hl
   exact hl hc
  inj:=fun l l' h h' _=>by
   have key: ∀l,qdw (st0 ns) l→l= .list 0:=fun l hc=>by
    cases l<;>simp [qdw,st0]at hc
    rw [hc]
   rw [key l h,key l' h']
  lt:=fun l hc=>by
   cases l<;>simp [qdw,st0]at hc
   subst hc;exact Nat.zero_lt_one
  obj:=fun l o e=>by
   unfold st0 at e;dsimp only at e;split at e
   ·next q=>
    subst q;cases e
    exact⟨its,⟨_,ho⟩,qov hI,by rw [List.length_map];(with_reducible exact Nat.le_trans ‹_› (by decide))⟩
   ·cases e
  noi:=fun c n=>rfl}
 have hb:BudC callerA d:=⟨rfl,rfl,by show 1+claimMargin+5*d≤990;have e:claimMargin=300:=rfl;lia,by show 4+30*d≤9700;lia⟩
 have:=(qsf F (fun f D h=>hF ▸ qqi (p:=w.params) rfl h) d _ _ _ _ _ hrun).2 callerA (fun _=>a) s₁ [.ref a] hb R (.cons ⟨Nat.zero_lt_one,rfl⟩ .nil)
 rw [hF,←hfa]at this;refine qgv (qcw this fun r s' ⟨y,e,ρ',p,hy⟩=>?_)
 subst e;exact⟨hy,p.rel.base,p.os,p.gens⟩
end
end Mine
open PySem PySem.W PySem.W.X PyProof.Rows Mine.H in
set_option tactic.hygienic true in
theorem Mine.join (hB:Mine.LawTrue):PySem.Challenge.rw_up0077_01.Holds:=by
 w_on
 refine holds_law (by kernel_rfl) fun said=>?_
 refine Mine.holds_k (q:=qcq) (loose:=qe4) (Xt:=hXt) (XP:=XL qcq []) (Yf:=obsZ qsh) (Ya:=valZ hK hN hT) (d:=lawD) (kwd:= []) (N:=hNN) h_left (fun s e=>xl_of s (Bool.and_eq_true_iff.mp e).1) XL.keeps h_def h_the h_kw (fun s e=>recFacts_of (Bool.and_eq_true_iff.mp e).2) (by rfl) (by assumption) (by decide+kernel) ⟨rfl,rfl,rfl,rfl,rfl,by decide+kernel⟩ ?hw ?hc
 case hw=>w_witness2
 case hc=>
  intro w s₀ s₁ mg mb G y fa hmg hg args vals as L hpre hlay;have hrd:=L.reads
  have hwl:=L.well
  have hlo: ∀a∈as,(a==sysModules)=false:=L.low (by rw [(z_facts qts y).2.2.1];decide)
  wrow_args hpre hlay hrd hwl hlo
  rename_i ns hsh hl0 hl1 hr1 hl2 as1 as2 a its as3 hL ra wl r0 hI hr hc1 hc2
  have hX:(hK w.params).In s₁.heap:=Frag.In.keeps (z_facts qts y).2.1 L.keeps
  have hlen:ns.length≤63:=by lia
  refine Mine.k_mono (Mine.walk_ok hB G.T.g hX hmg (script_obj L hL) hI hlen) fun v s' ⟨hv,hk,hos,hgs⟩=>?_
  subst hv;refine⟨.inl ⟨_,.bool true,[],rfl,fun cls=>rfl,.bool true,?_,fun _=>⟨.nil,fun a h=>by cases h⟩⟩,.of_keep hk,hos,.of_eq (hgs.trans hg)⟩
  wrow_post
end
noncomputable section
namespace Mine.B
noncomputable def qez:R→Option (V×St)
 |some (.next,_,σ)=>some (.none,σ)
 |some (.ret v,_,σ)=>some (v,σ)
 |none=>none
noncomputable def qb3 (D:Def) (C:Calls) (vs:List V) (σ:St):Option (V×St):=match qdl D.params vs with
 |none=>none
 |some l=>qez (qbk C D.body l σ)
section
variable {C:Calls} {l:Locs} {σ:St}
noncomputable def qsj (o:Option V) (σ:St):Option (V×St):=qrf o σ fun v σ=>some (v,σ)
@[simp] theorem lookV_ok (v:V):qsj (some v) σ=some (v,σ):=rfl
noncomputable def attrO (x:String) (o:Option MObj):Option V:=match o with
 |some (.inst fs)=>qe7 x fs
 |_=>none
noncomputable def selS (b:Bool) (v:V) (o:Option V):Option V:=match b with|true=>some v|false=>o
@[simp] theorem qqk (x y:String) (v:V):Locs.set l x v y=selS (y==x) v (l y):=rfl
theorem qe5 {x y:String} (v:V) (h:y≠x):Locs.set l x v y=l y:=by rw [qqk,beq_eq_false_iff_ne.mpr h];rfl
theorem set_at (x:String) (v:V):Locs.set l x v x=some v:=by rw [qqk,beq_iff_eq.mpr rfl];rfl
@[simp] theorem selS_t (v:V) (o:Option V):selS true v o=some v:=rfl
@[simp] theorem selS_f (v:V) (o:Option V):selS false v o=o:=rfl
@[simp] theorem alGet_c (k x:String) (u:V) (r:List (String×V)):qe7 k ((x,u)::r)=selS (x==k) u (qe7 k r):=rfl
@[simp] theorem qx0 (c:Cls) (n:Nat) (x:String):qid (.ref (.inst c n)) x σ=attrO x (σ.heap (.inst c n)):=rfl
@[simp] theorem attrO_ok (x:String) (fs:List (String×V)):attrO x (some (.inst fs))=qe7 x fs:=rfl
noncomputable def qql (o:Option Bool) (σ:St):Option (V×St):=qe1 o fun r=>some (.bool r,σ)
@[simp] theorem qsk (r:Bool):qql (some r) σ=some (.bool r,σ):=rfl
@[simp] theorem f_int (i:Int):evE C l (.int i) σ=some (.int i,σ):=rfl
@[simp] theorem f_none:evE C l .none σ=some (.none,σ):=rfl
@[simp] theorem f_bool (b:Bool):evE C l (.bool b) σ=some (.bool b,σ):=rfl
@[simp] theorem f_str (s:String):evE C l (.str s) σ=some (.str s,σ):=rfl
@[simp] theorem f_var (x:String):evE C l (.var x) σ=qsj (l x) σ:=rfl
noncomputable def kAttr (x:String) (m:Option (V×St)):Option (V×St):=bind m fun v σ=>qrf (qid v x σ) σ fun v σ=>some (v,σ)
@[simp] theorem f_attr (e:ME) (x:String):evE C l (.attr e x) σ=kAttr x (evE C l e σ):=rfl
@[simp] theorem kAttr_ok (x:String) (v:V):kAttr x (some (v,σ))=qsj (qid v x σ) σ:=rfl
noncomputable def qqm (v:V) (m:Option (V×St)):Option (V×St):=bind m fun k σ=>qrf (qgc v k σ) σ fun v σ=>some (v,σ)
noncomputable def qtv (C:Calls) (l:Locs) (i:ME) (m:Option (V×St)):Option (V×St):=bind m fun v σ=>qqm v (evE C l i σ)
@[simp] theorem f_item (e i:ME):evE C l (.item e i) σ=qtv C l i (evE C l e σ):=rfl
@[simp] theorem kItem1_ok (i:ME) (v:V):qtv C l i (some (v,σ))=qqm v (evE C l i σ):=rfl
@[simp] theorem kItem2_ok (v k:V):qqm v (some (k,σ))=qsj (qgc v k σ) σ:=rfl
noncomputable def kTo2 (v:V) (m:Option (V×St)):Option (V×St):=bind m fun k σ=>qer v k σ
noncomputable def kTo1 (C:Calls) (l:Locs) (i:ME) (m:Option (V×St)):Option (V×St):=bind m fun v σ=>kTo2 v (evE C l i σ)
@[simp] theorem f_to (e i:ME):evE C l (.sliceTo e i) σ=kTo1 C l i (evE C l e σ):=rfl
@[simp] theorem kTo1_ok (i:ME) (v:V):kTo1 C l i (some (v,σ))=kTo2 v (evE C l i σ):=rfl
@[simp] theorem kTo2_ok (v k:V):kTo2 v (some (k,σ))=qer v k σ:=rfl
noncomputable def qqn (v:V) (m:Option (V×St)):Option (V×St):=bind m fun k σ=>qdy v k σ
noncomputable def qtw (C:Calls) (l:Locs) (i:ME) (m:Option (V×St)):Option (V×St):=bind m fun v σ=>qqn v (evE C l i σ)
@[simp] theorem f_from (e i:ME):evE C l (.sliceFrom e i) σ=qtw C l i (evE C l e σ):=rfl
@[simp] theorem kFrom1_ok (i:ME) (v:V):qtw C l i (some (v,σ))=qqn v (evE C l i σ):=rfl
@[simp] theorem kFrom2_ok (v k:V):qqn v (some (k,σ))=qdy v k σ:=rfl
noncomputable def qvw (op:Op) (x:V) (m:Option (V×St)):Option (V×St):=bind m fun y σ=>qe8 op x y σ
noncomputable def kBin1 (C:Calls) (l:Locs) (op:Op) (b:ME) (m:Option (V×St)):Option (V×St):=bind m fun x σ=>qvw op x (evE C l b σ)
@[simp] theorem f_bin (op:Op) (a b:ME):evE C l (.bin op a b) σ=kBin1 C l op b (evE C l a σ):=rfl
@[simp] theorem kBin1_ok (op:Op) (b:ME) (v:V):kBin1 C l op b (some (v,σ))=qvw op v (evE C l b σ):=rfl
@[simp] theorem kBin2_ok (op:Op) (v k:V):qvw op v (some (k,σ))=qe8 op v k σ:=rfl
noncomputable def kNeg (m:Option (V×St)):Option (V×St):=bind m fun x σ=>match x with| .int i=>some (.int (-i),σ)|_=>none
@[simp] theorem f_neg (a:ME):evE C l (.neg a) σ=kNeg (evE C l a σ):=rfl
@[simp] theorem kNeg_ok (i:Int):kNeg (some (.int i,σ))=some (.int (-i),σ):=rfl
noncomputable def qvx (op:Cmp) (x:V) (m:Option (V×St)):Option (V×St):=bind m fun y σ=>qql (qib op x y σ) σ
noncomputable def kCmp1 (C:Calls) (l:Locs) (op:Cmp) (b:ME) (m:Option (V×St)):Option (V×St):=bind m fun x σ=>qvx op x (evE C l b σ)
@[simp] theorem f_cmp (op:Cmp) (a b:ME):evE C l (.cmp op a b) σ=kCmp1 C l op b (evE C l a σ):=rfl
@[simp] theorem qsl (op:Cmp) (b:ME) (v:V):kCmp1 C l op b (some (v,σ))=qvx op v (evE C l b σ):=rfl
@[simp] theorem qsm (op:Cmp) (v k:V):qvx op v (some (k,σ))=qql (qib op v k σ) σ:=rfl
noncomputable def kCh4 (o2:Cmp) (y:V) (m:Option (V×St)):Option (V×St):=bind m fun z σ=>qql (qib o2 y z σ) σ
noncomputable def kCh3 (C:Calls) (l:Locs) (o2:Cmp) (c:ME) (y:V) (σ:St) (o:Option Bool):Option (V×St):=qe1 o fun r=>match r with
 |true=>kCh4 o2 y (evE C l c σ)
 |false=>some (.bool false,σ)
noncomputable def kCh2 (C:Calls) (l:Locs) (o1 o2:Cmp) (c:ME) (x:V) (m:Option (V×St)):Option (V×St):=bind m fun y σ=>kCh3 C l o2 c y σ (qib o1 x y σ)
noncomputable def kCh1 (C:Calls) (l:Locs) (o1:Cmp) (b:ME) (o2:Cmp) (c:ME) (m:Option (V×St)):Option (V×St):=bind m fun x σ=>kCh2 C l o1 o2 c x (evE C l b σ)
@[simp] theorem f_chain (a:ME) (o1:Cmp) (b:ME) (o2:Cmp) (c:ME):evE C l (.chain a o1 b o2 c) σ=kCh1 C l o1 b o2 c (evE C l a σ):=rfl
@[simp] theorem kCh1_ok (o1:Cmp) (b:ME) (o2:Cmp) (c:ME) (x:V):kCh1 C l o1 b o2 c (some (x,σ))=kCh2 C l o1 o2 c x (evE C l b σ):=rfl
@[simp] theorem kCh2_ok (o1 o2:Cmp) (c:ME) (x y:V):kCh2 C l o1 o2 c x (some (y,σ))=kCh3 C l o2 c y σ (qib o1 x y σ):=rfl
@[simp] theorem kCh3_t (o2:Cmp) (c:ME) (y:V):kCh3 C l o2 c y σ (some true)=kCh4 o2 y (evE C l c σ):=rfl
@[simp] theorem kCh3_f (o2:Cmp) (c:ME) (y:V):kCh3 C l o2 c y σ (some false)=some (.bool false,σ):=rfl
@[simp] theorem kCh4_ok (o2:Cmp) (y z:V):kCh4 o2 y (some (z,σ))=qql (qib o2 y z σ) σ:=rfl
noncomputable def kAnd (C:Calls) (l:Locs) (b:ME) (m:Option (V×St)):Option (V×St):=bind m fun x σ=>isB x fun r=>match r with|true=>evE C l b σ|false=>some (.bool false,σ)
@[simp] theorem f_and (a b:ME):evE C l (.and a b) σ=kAnd C l b (evE C l a σ):=rfl
@[simp] theorem kAnd_t (b:ME):kAnd C l b (some (.bool true,σ))=evE C l b σ:=rfl
@[simp] theorem kAnd_f (b:ME):kAnd C l b (some (.bool false,σ))=some (.bool false,σ):=rfl
noncomputable def kOr (C:Calls) (l:Locs) (b:ME) (m:Option (V×St)):Option (V×St):=bind m fun x σ=>isB x fun r=>match r with|false=>evE C l b σ|true=>some (.bool true,σ)
@[simp] theorem f_or (a b:ME):evE C l (.or a b) σ=kOr C l b (evE C l a σ):=rfl
@[simp] theorem kOr_f (b:ME):kOr C l b (some (.bool false,σ))=evE C l b σ:=rfl
@[simp] theorem kOr_t (b:ME):kOr C l b (some (.bool true,σ))=some (.bool true,σ):=rfl
noncomputable def kNot (m:Option (V×St)):Option (V×St):=bind m fun x σ=>isB x fun r=>some (.bool (!r),σ)
@[simp] theorem f_not (a:ME):evE C l (.not a) σ=kNot (evE C l a σ):=rfl
@[simp] theorem kNot_ok (r:Bool):kNot (some (.bool r,σ))=some (.bool (!r),σ):=rfl
noncomputable def kIte (C:Calls) (l:Locs) (a b:ME) (m:Option (V×St)):Option (V×St):=bind m fun x σ=>isB x fun r=>match r with|true=>evE C l a σ|false=>evE C l b σ
@[simp] theorem f_ite (c a b:ME):evE C l (.ite c a b) σ=kIte C l a b (evE C l c σ):=rfl
@[simp] theorem kIte_t (a b:ME):kIte C l a b (some (.bool true,σ))=evE C l a σ:=rfl
@[simp] theorem kIte_f (a b:ME):kIte C l a b (some (.bool false,σ))=evE C l b σ:=rfl
noncomputable def kTup (m:Option (List V×St)):Option (V×St):=bind m fun vs σ=>some (.ref (.tup σ.next),σ.new .tup (.tup vs))
@[simp] theorem f_tup (es:List ME):evE C l (.tup es) σ=kTup (qdc C l es σ):=rfl
@[simp] theorem kTup_ok (vs:List V):kTup (some (vs,σ))=some (.ref (.tup σ.next),σ.new .tup (.tup vs)):=rfl
noncomputable def kLst (m:Option (List V×St)):Option (V×St):=bind m fun vs σ=>newList vs σ
@[simp] theorem f_lst (es:List ME):evE C l (.lst es) σ=kLst (qdc C l es σ):=rfl
@[simp] theorem kLst_ok (vs:List V):kLst (some (vs,σ))=some (.ref (.list σ.next),σ.new .list (.list vs)):=rfl
noncomputable def kDct (ks:List String) (m:Option (List V×St)):Option (V×St):=bind m fun vs σ=>match ks with
 | []=>some (.ref (.dict σ.next),σ.new .dict (.dictI []))
 |_::_=>some (.ref (.dict σ.next),σ.new .dict (.dictS (ks.zip vs)))
@[simp] theorem f_dct (ks:List String) (es:List ME):evE C l (.dct ks es) σ=kDct ks (qdc C l es σ):=rfl
@[simp] theorem kDct_nil (vs:List V):kDct [] (some (vs,σ))=some (.ref (.dict σ.next),σ.new .dict (.dictI [])):=rfl
@[simp] theorem kDct_cons (k:String) (ks:List String) (vs:List V):kDct (k::ks) (some (vs,σ))=some (.ref (.dict σ.next),σ.new .dict (.dictS ((k::ks).zip vs))):=rfl
noncomputable def kCall (C:Calls) (f:String) (m:Option (List V×St)):Option (V×St):=bind m fun vs σ=>C (.f f) vs σ
@[simp] theorem f_call (f:String) (es:List ME):evE C l (.call f es) σ=kCall C f (qdc C l es σ):=rfl
@[simp] theorem kCall_ok (f:String) (vs:List V):kCall C f (some (vs,σ))=C (.f f) vs σ:=rfl
noncomputable def qvy (c:Cls) (n:Nat) (m:Option (V×St)):Option (V×St):=bind m fun r σ'=>match r with
 | .none=>some (.ref (.inst c n),σ')
 |_=>none
noncomputable def kNew (C:Calls) (c:Cls) (m:Option (List V×St)):Option (V×St):=bind m fun vs σ=>qvy c σ.next (C (.m c "__init__") (.ref (.inst c σ.next)::vs) (σ.new (.inst c) (.inst [])))
@[simp] theorem f_new (c:Cls) (es:List ME):evE C l (.new c es) σ=kNew C c (qdc C l es σ):=rfl
@[simp] theorem kNew_ok (c:Cls) (vs:List V):kNew C c (some (vs,σ))=qvy c σ.next (C (.m c "__init__") (.ref (.inst c σ.next)::vs) (σ.new (.inst c) (.inst []))):=rfl
@[simp] theorem kNew2_ok (c:Cls) (n:Nat):qvy c n (some (.none,σ))=some (.ref (.inst c n),σ):=rfl
noncomputable def qqo (C:Calls) (x:String) (v:V) (vs:List V) (σ:St):Option (V×St):=match v with
 | .ref (.inst c n)=>C (.m c x) (.ref (.inst c n)::vs) σ
 |_=>qdz v x vs σ
noncomputable def qqp (C:Calls) (x:String) (v:V) (m:Option (List V×St)):Option (V×St):=bind m fun vs σ=>qqo C x v vs σ
noncomputable def qqq (C:Calls) (l:Locs) (x:String) (es:List ME) (v:V) (σ:St) (b:Bool):Option (V×St):=match b with
 |false=>none
 |true=>qqp C x v (qdc C l es σ)
noncomputable def qtx (C:Calls) (l:Locs) (x:String) (es:List ME) (m:Option (V×St)):Option (V×St):=bind m fun v σ=>qqq C l x es v σ (qc8 v σ)
@[simp] theorem f_meth (e:ME) (x:String) (es:List ME):evE C l (.meth e x es) σ=qtx C l x es (evE C l e σ):=rfl
@[simp] theorem kMeth1_ok (x:String) (es:List ME) (v:V):qtx C l x es (some (v,σ))=qqq C l x es v σ (qc8 v σ):=rfl
@[simp] theorem kMeth2_ok (x:String) (es:List ME) (v:V):qqq C l x es v σ true=qqp C x v (qdc C l es σ):=rfl
@[simp] theorem kMeth3_ok (x:String) (v:V) (vs:List V):qqp C x v (some (vs,σ))=qqo C x v vs σ:=rfl
@[simp] theorem qx1 (x:String) (c:Cls) (n:Nat) (vs:List V):qqo C x (.ref (.inst c n)) vs σ=C (.m c x) (.ref (.inst c n)::vs) σ:=rfl
@[simp] theorem qx2 (x:String) (n:Nat) (vs:List V):qqo C x (.ref (.list n)) vs σ=qdz (.ref (.list n)) x vs σ:=rfl
@[simp] theorem qx3 (x:String) (n:Nat) (vs:List V):qqo C x (.ref (.dict n)) vs σ=qdz (.ref (.dict n)) x vs σ:=rfl
noncomputable def kBi (b:Bi) (m:Option (List V×St)):Option (V×St):=bind m fun vs σ=>biV b vs σ
@[simp] theorem f_bi (b:Bi) (es:List ME):evE C l (.bi b es) σ=kBi b (qdc C l es σ):=rfl
@[simp] theorem kBi_ok (b:Bi) (vs:List V):kBi b (some (vs,σ))=biV b vs σ:=rfl
noncomputable def kEs2 (v:V) (m:Option (List V×St)):Option (List V×St):=bind m fun vs σ=>some (v::vs,σ)
noncomputable def kEs1 (C:Calls) (l:Locs) (r:List ME) (m:Option (V×St)):Option (List V×St):=bind m fun v σ=>kEs2 v (qdc C l r σ)
@[simp] theorem f_nil:qdc C l [] σ=some ([],σ):=rfl
@[simp] theorem f_cons (e:ME) (r:List ME):qdc C l (e::r) σ=kEs1 C l r (evE C l e σ):=rfl
@[simp] theorem kEs1_ok (r:List ME) (v:V):kEs1 C l r (some (v,σ))=kEs2 v (qdc C l r σ):=rfl
@[simp] theorem kEs2_ok (v:V) (vs:List V):kEs2 v (some (vs,σ))=some (v::vs,σ):=rfl
noncomputable def kSt (l:Locs) (m:Option St):R:=stR m fun σ=>some (.next,l,σ)
@[simp] theorem kSt_ok:kSt l (some σ)=some (.next,l,σ):=rfl
noncomputable def kAsg (l:Locs) (x:String) (m:Option (V×St)):R:=qa6 m fun v σ=>some (.next,l.set x v,σ)
@[simp] theorem s_asg (x:String) (e:ME):evS C (.asgVar x e) l σ=kAsg l x (evE C l e σ):=rfl
@[simp] theorem kAsg_ok (x:String) (v:V):kAsg l x (some (v,σ))=some (.next,l.set x v,σ):=rfl
noncomputable def qqr (σ:St) (o:Option Locs):R:=qdt o fun l'=>some (.next,l',σ)
@[simp] theorem kSetT_ok (l':Locs):qqr σ (some l')=some (.next,l',σ):=rfl
noncomputable def kAsgT (xs:List String) (l:Locs) (m:Option (List V×St)):R:=qa6 m fun vs σ=>qqr (σ.new .tup (.tup vs)) (qcr xs vs l)
@[simp] theorem s_asgT (xs:List String) (es:List ME):evS C (.asgTup xs es) l σ=kAsgT xs l (qdc C l es σ):=rfl
@[simp] theorem kAsgT_ok (xs:List String) (vs:List V):kAsgT xs l (some (vs,σ))=qqr (σ.new .tup (.tup vs)) (qcr xs vs l):=rfl
noncomputable def qvz (xs:List String) (l:Locs) (σ:St) (o:Option MObj):R:=match o with
 |some (.tup vs)=>qqr σ (qcr xs vs l)
 |_=>none
noncomputable def kUnp (xs:List String) (l:Locs) (m:Option (V×St)):R:=qa6 m fun v σ=>match v with
 | .ref (.tup n)=>qvz xs l σ (σ.heap (.tup n))
 |_=>none
@[simp] theorem s_unp (xs:List String) (e:ME):evS C (.asgUnp xs e) l σ=kUnp xs l (evE C l e σ):=rfl
@[simp] theorem kUnp_ok (xs:List String) (n:Nat):kUnp xs l (some (.ref (.tup n),σ))=qvz xs l σ (σ.heap (.tup n)):=rfl
@[simp] theorem kUnp2_ok (xs:List String) (vs:List V):qvz xs l σ (some (.tup vs))=qqr σ (qcr xs vs l):=rfl
@[simp] theorem qow:qcr [] [] l=some l:=rfl
@[simp] theorem qmv (x:String) (xs:List String) (v:V) (vs:List V):qcr (x::xs) (v::vs) l=qcr xs vs (l.set x v):=rfl
noncomputable def kAA2 (l:Locs) (x:String) (u:V) (m:Option (V×St)):R:=qa6 m fun o σ=>kSt l (qda o x u σ)
noncomputable def kAA1 (C:Calls) (l:Locs) (e:ME) (x:String) (m:Option (V×St)):R:=qa6 m fun u σ=>kAA2 l x u (evE C l e σ)
@[simp] theorem s_aa (e:ME) (x:String) (v:ME):evS C (.asgAttr e x v) l σ=kAA1 C l e x (evE C l v σ):=rfl
@[simp] theorem kAA1_ok (e:ME) (x:String) (u:V):kAA1 C l e x (some (u,σ))=kAA2 l x u (evE C l e σ):=rfl
@[simp] theorem kAA2_ok (x:String) (u o:V):kAA2 l x u (some (o,σ))=kSt l (qda o x u σ):=rfl
noncomputable def kAI3 (l:Locs) (o u:V) (m:Option (V×St)):R:=qa6 m fun k σ=>kSt l (qdb o k u σ)
noncomputable def kAI2 (C:Calls) (l:Locs) (i:ME) (u:V) (m:Option (V×St)):R:=qa6 m fun o σ=>kAI3 l o u (evE C l i σ)
noncomputable def kAI1 (C:Calls) (l:Locs) (e i:ME) (m:Option (V×St)):R:=qa6 m fun u σ=>kAI2 C l i u (evE C l e σ)
@[simp] theorem s_ai (e i v:ME):evS C (.asgItem e i v) l σ=kAI1 C l e i (evE C l v σ):=rfl
@[simp] theorem kAI1_ok (e i:ME) (u:V):kAI1 C l e i (some (u,σ))=kAI2 C l i u (evE C l e σ):=rfl
@[simp] theorem kAI2_ok (i:ME) (u o:V):kAI2 C l i u (some (o,σ))=kAI3 l o u (evE C l i σ):=rfl
@[simp] theorem kAI3_ok (o u k:V):kAI3 l o u (some (k,σ))=kSt l (qdb o k u σ):=rfl
noncomputable def kL2 (l:Locs) (u o:V) (i:V) (m:Option (V×St)):R:=qa6 m fun y σ=>match i,y with
 | .int i,.int j=>stR (qcg o (some i) (some j) u σ) fun σ=>some (.next,l,σ)
 |_,_=>none
noncomputable def kLn (l:Locs) (u:V) (m:Option (V×St)):R:=qa6 m fun o σ=>kSt l (qcg o none none u σ)
noncomputable def kLb (C:Calls) (l:Locs) (u o:V) (b:ME) (m:Option (V×St)):R:=qa6 m fun x σ=>kL2 l u o x (evE C l b σ)
noncomputable def kLa (C:Calls) (l:Locs) (a b:ME) (u:V) (m:Option (V×St)):R:=qa6 m fun o σ=>kLb C l u o b (evE C l a σ)
noncomputable def kL0 (C:Calls) (l:Locs) (e:ME) (m:Option (V×St)):R:=qa6 m fun u σ=>kLn l u (evE C l e σ)
noncomputable def kL1 (C:Calls) (l:Locs) (e a b:ME) (m:Option (V×St)):R:=qa6 m fun u σ=>kLa C l a b u (evE C l e σ)
@[simp] theorem s_asl0 (e v:ME):evS C (.asgSlice e none none v) l σ=kL0 C l e (evE C l v σ):=rfl
@[simp] theorem s_asl2 (e a b v:ME):evS C (.asgSlice e (some a) (some b) v) l σ=kL1 C l e a b (evE C l v σ):=rfl
@[simp] theorem kL0_ok (e:ME) (u:V):kL0 C l e (some (u,σ))=kLn l u (evE C l e σ):=rfl
@[simp] theorem kLn_ok (u o:V):kLn l u (some (o,σ))=kSt l (qcg o none none u σ):=rfl
@[simp] theorem kL1_ok (e a b:ME) (u:V):kL1 C l e a b (some (u,σ))=kLa C l a b u (evE C l e σ):=rfl
@[simp] theorem kLa_ok (a b:ME) (u o:V):kLa C l a b u (some (o,σ))=kLb C l u o b (evE C l a σ):=rfl
@[simp] theorem kLb_ok (b:ME) (u o x:V):kLb C l u o b (some (x,σ))=kL2 l u o x (evE C l b σ):=rfl
@[simp] theorem kL2_ok (u o:V) (i j:Int):kL2 l u o (.int i) (some (.int j,σ))=kSt l (qcg o (some i) (some j) u σ):=rfl
noncomputable def kUA4 (l:Locs) (x:String) (o:V) (σ:St) (r:Option V):R:=qdt r fun r=>kSt l (qda o x r σ)
noncomputable def kUA3 (l:Locs) (x:String) (op:Op) (o u:V) (m:Option (V×St)):R:=qa6 m fun w σ=>kUA4 l x o σ (qre op u w)
noncomputable def kUA2 (C:Calls) (l:Locs) (x:String) (op:Op) (v:ME) (o:V) (σ:St) (r:Option V):R:=qdt r fun u=>kUA3 l x op o u (evE C l v σ)
noncomputable def kUA1 (C:Calls) (l:Locs) (x:String) (op:Op) (v:ME) (m:Option (V×St)):R:=qa6 m fun o σ=>kUA2 C l x op v o σ (qid o x σ)
@[simp] theorem s_ua (e:ME) (x:String) (op:Op) (v:ME):evS C (.augAttr e x op v) l σ=kUA1 C l x op v (evE C l e σ):=rfl
@[simp] theorem kUA1_ok (x:String) (op:Op) (v:ME) (o:V):kUA1 C l x op v (some (o,σ))=kUA2 C l x op v o σ (qid o x σ):=rfl
@[simp] theorem kUA2_ok (x:String) (op:Op) (v:ME) (o u:V):kUA2 C l x op v o σ (some u)=kUA3 l x op o u (evE C l v σ):=rfl
@[simp] theorem kUA3_ok (x:String) (op:Op) (o u w:V):kUA3 l x op o u (some (w,σ))=kUA4 l x o σ (qre op u w):=rfl
@[simp] theorem kUA4_ok (x:String) (o r:V):kUA4 l x o σ (some r)=kSt l (qda o x r σ):=rfl
noncomputable def kUI5 (l:Locs) (o k:V) (σ:St) (r:Option V):R:=qdt r fun r=>kSt l (qdb o k r σ)
noncomputable def kUI4 (l:Locs) (op:Op) (o k u:V) (m:Option (V×St)):R:=qa6 m fun w σ=>kUI5 l o k σ (qre op u w)
noncomputable def kUI3 (C:Calls) (l:Locs) (op:Op) (v:ME) (o k:V) (σ:St) (r:Option V):R:=qdt r fun u=>kUI4 l op o k u (evE C l v σ)
noncomputable def kUI2 (C:Calls) (l:Locs) (op:Op) (v:ME) (o:V) (m:Option (V×St)):R:=qa6 m fun k σ=>kUI3 C l op v o k σ (qgc o k σ)
noncomputable def kUI1 (C:Calls) (l:Locs) (i:ME) (op:Op) (v:ME) (m:Option (V×St)):R:=qa6 m fun o σ=>kUI2 C l op v o (evE C l i σ)
@[simp] theorem s_ui (e i:ME) (op:Op) (v:ME):evS C (.augItem e i op v) l σ=kUI1 C l i op v (evE C l e σ):=rfl
@[simp] theorem kUI1_ok (i:ME) (op:Op) (v:ME) (o:V):kUI1 C l i op v (some (o,σ))=kUI2 C l op v o (evE C l i σ):=rfl
@[simp] theorem kUI2_ok (op:Op) (v:ME) (o k:V):kUI2 C l op v o (some (k,σ))=kUI3 C l op v o k σ (qgc o k σ):=rfl
@[simp] theorem kUI3_ok (op:Op) (v:ME) (o k u:V):kUI3 C l op v o k σ (some u)=kUI4 l op o k u (evE C l v σ):=rfl
@[simp] theorem kUI4_ok (op:Op) (o k u w:V):kUI4 l op o k u (some (w,σ))=kUI5 l o k σ (qre op u w):=rfl
@[simp] theorem kUI5_ok (o k r:V):kUI5 l o k σ (some r)=kSt l (qdb o k r σ):=rfl
noncomputable def kEx (l:Locs) (m:Option (V×St)):R:=qa6 m fun _ σ=>some (.next,l,σ)
@[simp] theorem s_expr (e:ME):evS C (.expr e) l σ=kEx l (evE C l e σ):=rfl
@[simp] theorem kEx_ok (v:V):kEx l (some (v,σ))=some (.next,l,σ):=rfl
noncomputable def kIf (C:Calls) (l:Locs) (a b:List MS) (m:Option (V×St)):R:=qa6 m fun v σ=>isB v fun r=>match r with
 |true=>qbk C a l σ
 |false=>qbk C b l σ
@[simp] theorem s_ifs (c:ME) (a b:List MS):evS C (.ifs c a b) l σ=kIf C l a b (evE C l c σ):=rfl
@[simp] theorem kIf_t (a b:List MS):kIf C l a b (some (.bool true,σ))=qbk C a l σ:=rfl
@[simp] theorem kIf_f (a b:List MS):kIf C l a b (some (.bool false,σ))=qbk C b l σ:=rfl
noncomputable def kRet (l:Locs) (m:Option (V×St)):R:=qa6 m fun v σ=>some (.ret v,l,σ)
@[simp] theorem s_ret (e:ME):evS C (.ret e) l σ=kRet l (evE C l e σ):=rfl
@[simp] theorem kRet_ok (v:V):kRet l (some (v,σ))=some (.ret v,l,σ):=rfl
@[simp] theorem s_retN:evS C .retNone l σ=some (.ret .none,l,σ):=rfl
noncomputable def kDI2 (l:Locs) (o:V) (m:Option (V×St)):R:=qa6 m fun k σ=>kSt l (qes o k σ)
noncomputable def kDI1 (C:Calls) (l:Locs) (i:ME) (m:Option (V×St)):R:=qa6 m fun o σ=>kDI2 l o (evE C l i σ)
@[simp] theorem s_del (e i:ME):evS C (.delItem e i) l σ=kDI1 C l i (evE C l e σ):=rfl
@[simp] theorem kDI1_ok (i:ME) (o:V):kDI1 C l i (some (o,σ))=kDI2 l o (evE C l i σ):=rfl
@[simp] theorem kDI2_ok (o k:V):kDI2 l o (some (k,σ))=kSt l (qes o k σ):=rfl
noncomputable def kEn2 (l:Locs) (σ:St) (o:Option (List V)):R:=match o with
 |some []=>some (.next,l,σ)
 |_=>none
noncomputable def kEn1 (l:Locs) (m:Option (V×St)):R:=qa6 m fun v σ=>kEn2 l σ (qav v σ)
@[simp] theorem s_en (it:ME):evS C (.forEnum0 it) l σ=kEn1 l (evE C l it σ):=rfl
@[simp] theorem kEn1_ok (v:V):kEn1 l (some (v,σ))=kEn2 l σ (qav v σ):=rfl
@[simp] theorem kEn2_ok:kEn2 l σ (some [])=some (.next,l,σ):=rfl
@[simp] theorem s_try (b:List MS):evS C (.tryB b) l σ=qbk C b l σ:=rfl
noncomputable def kSeq (C:Calls) (r:List MS) (m:R):R:=qjp m (qbk C r)
@[simp] theorem s_nil:qbk C [] l σ=some (.next,l,σ):=rfl
@[simp] theorem s_cons (s:MS) (r:List MS):qbk C (s::r) l σ=kSeq C r (evS C s l σ):=rfl
@[simp] theorem kSeq_next (r:List MS):kSeq C r (some (.next,l,σ))=qbk C r l σ:=rfl
@[simp] theorem kSeq_ret (r:List MS) (v:V):kSeq C r (some (.ret v,l,σ))=some (.ret v,l,σ):=rfl
noncomputable def kFin (D:Def) (C:Calls) (σ:St) (o:Option Locs):Option (V×St):=match o with
 |none=>none
 |some l=>qez (qbk C D.body l σ)
@[simp] theorem callD_k (D:Def) (vs:List V):qb3 D C vs σ=kFin D C σ (qdl D.params vs):=rfl
@[simp] theorem kFin_ok (D:Def):kFin D C σ (some l)=qez (qbk C D.body l σ):=rfl
@[simp] theorem finR_next:qez (some (.next,l,σ))=some (.none,σ):=rfl
@[simp] theorem finR_ret (v:V):qez (some (.ret v,l,σ))=some (v,σ):=rfl
@[simp] theorem qx4:qdl [] []=some (fun _=>none):=rfl
@[simp] theorem qv0 (x:String) (xs:List String) (v:V) (vs:List V):qdl (x::xs) (v::vs)=(qdl xs vs).map fun l=>l.set x v:=rfl
end
section
variable {σ:St}
noncomputable def selL (b:Bool) (p q:List (String×V)):List (String×V):=match b with|true=>p|false=>q
@[simp] theorem selL_t (p q:List (String×V)):selL true p q=p:=rfl
@[simp] theorem selL_f (p q:List (String×V)):selL false p q=q:=rfl
@[simp] theorem alSet_n (k:String) (v:V):qfl k v []= [(k,v)]:=rfl
@[simp] theorem alSet_c (k x:String) (u v:V) (r:List (String×V)):qfl k v ((x,u)::r)=selL (x==k) ((x,v)::r) ((x,u)::qfl k v r):=rfl
@[simp] theorem alGet_n (k:String):qe7 k []=none:=rfl
@[simp] theorem qj7 (a b:V):qib .eq a b σ=eqV a b σ:=rfl
@[simp] theorem qj8 (a b:V):qib .ne a b σ=(eqV a b σ).map (!·):=rfl
@[simp] theorem cmpV_in (a b:V):qib .isIn a b σ=inV a b σ:=rfl
@[simp] theorem cmpV_ni (a b:V):qib .notIn a b σ=(inV a b σ).map (!·):=rfl
@[simp] theorem cmpV_is (a b:V):qib .is a b σ=isV a b σ:=rfl
@[simp] theorem cmpV_isnt (a b:V):qib .isnt a b σ=(isV a b σ).map (!·):=rfl
@[simp] theorem cmpV_lt (x y:Int):qib .lt (.int x) (.int y) σ=some (decide (x<y)):=rfl
@[simp] theorem cmpV_le (x y:Int):qib .le (.int x) (.int y) σ=some (decide (x≤y)):=rfl
@[simp] theorem cmpV_gt (x y:Int):qib .gt (.int x) (.int y) σ=some (decide (y<x)):=rfl
@[simp] theorem cmpV_ge (x y:Int):qib .ge (.int x) (.int y) σ=some (decide (y≤x)):=rfl
@[simp] theorem eqV_int (x y:Int):eqV (.int x) (.int y) σ=some (decide (x=y)):=rfl
@[simp] theorem eqV_by (x y:List UInt8):eqV (.bytes x) (.bytes y) σ=some (decide (x=y)):=rfl
@[simp] theorem eqV_none:eqV .none .none σ=some true:=rfl
noncomputable def eqB (a b:Option (List (List UInt8))):Option Bool:=match a,b with
 |some is,some js=>some (decide (is=js))
 |_,_=>none
noncomputable def eqI (a b:Option (List Int)) (xs ys:List V):Option Bool:=match a,b with
 |some is,some js=>some (decide (is=js))
 |_,_=>eqB (bytess? xs) (bytess? ys)
noncomputable def eqL (a b:Option MObj):Option Bool:=match a with
 |some (.list xs)=>(match b with
  |some (.list ys)=>qyi xs ys
  |_=>none)
 |_=>none
@[simp] theorem qg7 (m n:Nat):eqV (.ref (.list m)) (.ref (.list n)) σ=eqL (σ.heap (.list m)) (σ.heap (.list n)):=rfl
@[simp] theorem qnl (xs ys:List V):eqL (some (.list xs)) (some (.list ys))=eqI (ints? xs) (ints? ys) xs ys:=rfl
@[simp] theorem qnm (is js:List Int) (xs ys:List V):eqI (some is) (some js) xs ys=some (decide (is=js)):=rfl
@[simp] theorem qnn (xs ys:List V):eqI none none xs ys=eqB (bytess? xs) (bytess? ys):=rfl
@[simp] theorem qno (is js:List (List UInt8)):eqB (some is) (some js)=some (decide (is=js)):=rfl
@[simp] theorem isV_nn:isV .none .none σ=some true:=rfl
@[simp] theorem isV_nr (l:Loc):isV .none (.ref l) σ=some false:=rfl
@[simp] theorem isV_rn (l:Loc):isV (.ref l) .none σ=some false:=rfl
@[simp] theorem isV_in (i:Int):isV (.int i) .none σ=some false:=rfl
noncomputable def isI2 (x y:Option MObj) (b:Bool):Option Bool:=match x,y with
 |some _,some _=>some b
 |_,_=>none
@[simp] theorem isV_ii (c c':Cls) (n n':Nat):isV (.ref (.inst c n)) (.ref (.inst c' n')) σ=isI2 (σ.heap (.inst c n)) (σ.heap (.inst c' n')) (decide (Loc.inst c n= .inst c' n')):=by
 show(if(σ.heap (.inst c n)).isSome∧(σ.heap (.inst c' n')).isSome then some (decide (Loc.inst c n= .inst c' n'))else none)=_
 cases σ.heap (.inst c n)<;>cases σ.heap (.inst c' n')<;>rfl
@[simp] theorem isI2_ok (x y:MObj) (b:Bool):isI2 (some x) (some y) b=some b:=rfl
noncomputable def inL (x:Int) (o:Option MObj):Option Bool:=match o with
 |some (.list xs)=>(ints? xs).map fun is=>decide (x∈is)
 |_=>none
noncomputable def inT (x:Int) (o:Option MObj):Option Bool:=match o with
 |some (.tup xs)=>(ints? xs).map fun is=>decide (x∈is)
 |_=>none
noncomputable def inD (x:Int) (o:Option MObj):Option Bool:=match o with
 |some (.dictI kvs)=>some (qa8 x kvs).isSome
 |_=>none
@[simp] theorem qew (x:Int) (m:Nat):inV (.int x) (.ref (.list m)) σ=inL x (σ.heap (.list m)):=rfl
@[simp] theorem inV_tup (x:Int) (m:Nat):inV (.int x) (.ref (.tup m)) σ=inT x (σ.heap (.tup m)):=rfl
@[simp] theorem inV_dict (x:Int) (m:Nat):inV (.int x) (.ref (.dict m)) σ=inD x (σ.heap (.dict m)):=rfl
@[simp] theorem qjd (x:Int) (xs:List V):inL x (some (.list xs))=(ints? xs).map fun is=>decide (x∈is):=rfl
@[simp] theorem inT_ok (x:Int) (xs:List V):inT x (some (.tup xs))=(ints? xs).map fun is=>decide (x∈is):=rfl
@[simp] theorem inD_ok (x:Int) (kvs:List (Int×V)):inD x (some (.dictI kvs))=some (qa8 x kvs).isSome:=rfl
@[simp] theorem qqs (x y:Int):qe8 .add (.int x) (.int y) σ=some (.int (x+y),σ):=rfl
@[simp] theorem bin_sub (x y:Int):qe8 .sub (.int x) (.int y) σ=some (.int (x- y),σ):=rfl
@[simp] theorem bin_mul (x y:Int):qe8 .mul (.int x) (.int y) σ=if y.natAbs<18446744073709551616 then some (.int (x*y),σ)else none:=rfl
@[simp] theorem bin_fdiv (x y:Int):qe8 .fdiv (.int x) (.int y) σ=if y≠0∧y.natAbs<1073741824 then some (.int (x.fdiv y),σ)else none:=rfl
@[simp] theorem bin_mod (x y:Int):qe8 .mod (.int x) (.int y) σ=if y≠0 then some (.int (x.fmod y),σ)else none:=rfl
@[simp] theorem bin_pow (x y:Int):qe8 .pow (.int x) (.int y) σ=if 0≤y∧y≤1000∧x.natAbs<18446744073709551616 then some (.int (x^y.toNat),σ)else none:=rfl
@[simp] theorem bin_by (x y:List UInt8):qe8 .add (.bytes x) (.bytes y) σ=if x.length+y.length≤64 then some (.bytes (x++y),σ)else none:=rfl
noncomputable def binL (a b:Option MObj) (σ:St):Option (V×St):=match a with
 |some (.list xs)=>(match b with
  |some (.list ys)=>if xs.length+ys.length≤200000 then some (.ref (.list σ.next),σ.new .list (.list (xs++ys)))else none
  |_=>none)
 |_=>none
@[simp] theorem bin_list (m n:Nat):qe8 .add (.ref (.list m)) (.ref (.list n)) σ=binL (σ.heap (.list m)) (σ.heap (.list n)) σ:=rfl
@[simp] theorem binL_ok (xs ys:List V):binL (some (.list xs)) (some (.list ys)) σ=if xs.length+ys.length≤200000 then some (.ref (.list σ.next),σ.new .list (.list (xs++ys)))else none:=rfl
@[simp] theorem aug_add (x y:Int):qre .add (.int x) (.int y)=some (.int (x+y)):=rfl
@[simp] theorem aug_sub (x y:Int):qre .sub (.int x) (.int y)=some (.int (x- y)):=rfl
noncomputable def itL (k:Int) (o:Option MObj):Option V:=match o with
 |some (.list vs)=>if 0≤k then vs[k.toNat]? else none
 |_=>none
noncomputable def itT (k:Int) (o:Option MObj):Option V:=match o with
 |some (.tup vs)=>if 0≤k∧k<1000 then vs[k.toNat]? else none
 |_=>none
noncomputable def itI (k:Int) (o:Option MObj):Option V:=match o with
 |some (.dictI kvs)=>qa8 k kvs
 |_=>none
noncomputable def itS (k:String) (o:Option MObj):Option V:=match o with
 |some (.dictS kvs)=>qe7 k kvs
 |_=>none
@[simp] theorem qqt (n:Nat) (k:Int):qgc (.ref (.list n)) (.int k) σ=itL k (σ.heap (.list n)):=rfl
@[simp] theorem item_tup (n:Nat) (k:Int):qgc (.ref (.tup n)) (.int k) σ=itT k (σ.heap (.tup n)):=rfl
@[simp] theorem item_di (n:Nat) (k:Int):qgc (.ref (.dict n)) (.int k) σ=itI k (σ.heap (.dict n)):=rfl
@[simp] theorem item_ds (n:Nat) (k:String):qgc (.ref (.dict n)) (.str k) σ=itS k (σ.heap (.dict n)):=rfl
@[simp] theorem itL_ok (k:Int) (vs:List V):itL k (some (.list vs))=if 0≤k then vs[k.toNat]? else none:=rfl
@[simp] theorem itT_ok (k:Int) (vs:List V):itT k (some (.tup vs))=if 0≤k∧k<1000 then vs[k.toNat]? else none:=rfl
@[simp] theorem itI_ok (k:Int) (kvs:List (Int×V)):itI k (some (.dictI kvs))=qa8 k kvs:=rfl
@[simp] theorem itS_ok (k:String) (kvs:List (String×V)):itS k (some (.dictS kvs))=qe7 k kvs:=rfl
noncomputable def saO (c:Cls) (n:Nat) (x:String) (u:V) (σ:St) (o:Option MObj):Option St:=match o with
 |some (.inst fs)=>if x∈fieldNames∧fs.length≤500 then some (σ.set (.inst c n) (.inst (qfl x u fs)))else none
 |_=>none
@[simp] theorem sa_inst (c:Cls) (n:Nat) (x:String) (u:V):qda (.ref (.inst c n)) x u σ=saO c n x u σ (σ.heap (.inst c n)):=rfl
@[simp] theorem saO_ok (c:Cls) (n:Nat) (x:String) (u:V) (fs:List (String×V)):saO c n x u σ (some (.inst fs))=if x∈fieldNames∧fs.length≤500 then some (σ.set (.inst c n) (.inst (qfl x u fs)))else none:=rfl
noncomputable def siL (n:Nat) (k:Int) (u:V) (σ:St) (o:Option MObj):Option St:=match o with
 |some (.list vs)=>if 0≤k∧k<vs.length∧n≠0 then some (σ.set (.list n) (.list (vs.set k.toNat u)))else none
 |_=>none
noncomputable def siD (n:Nat) (k:Int) (u:V) (σ:St) (o:Option MObj):Option St:=match o with
 |some (.dictI kvs)=>if kvs.length≤100000 then some (σ.set (.dict n) (.dictI (qbd k u kvs)))else none
 |_=>none
@[simp] theorem si_list (n:Nat) (k:Int) (u:V):qdb (.ref (.list n)) (.int k) u σ=siL n k u σ (σ.heap (.list n)):=rfl
@[simp] theorem si_dict (n:Nat) (k:Int) (u:V):qdb (.ref (.dict n)) (.int k) u σ=siD n k u σ (σ.heap (.dict n)):=rfl
@[simp] theorem siL_ok (n:Nat) (k:Int) (u:V) (vs:List V):siL n k u σ (some (.list vs))=if 0≤k∧k<vs.length∧n≠0 then some (σ.set (.list n) (.list (vs.set k.toNat u)))else none:=rfl
@[simp] theorem siD_ok (n:Nat) (k:Int) (u:V) (kvs:List (Int×V)):siD n k u σ (some (.dictI kvs))=if kvs.length≤100000 then some (σ.set (.dict n) (.dictI (qbd k u kvs)))else none:=rfl
noncomputable def dlL (n:Nat) (k:Int) (σ:St) (o:Option MObj):Option St:=match o with
 |some (.list vs)=>if 0≤k∧k<vs.length∧n≠0 then some (σ.set (.list n) (.list (vs.eraseIdx k.toNat)))else none
 |_=>none
noncomputable def dlD (n:Nat) (k:Int) (σ:St) (o:Option MObj):Option St:=match o with
 |some (.dictI kvs)=>if(qa8 k kvs).isSome then some (σ.set (.dict n) (.dictI (qds k kvs)))else none
 |_=>none
@[simp] theorem dl_list (n:Nat) (k:Int):qes (.ref (.list n)) (.int k) σ=dlL n k σ (σ.heap (.list n)):=rfl
@[simp] theorem dl_dict (n:Nat) (k:Int):qes (.ref (.dict n)) (.int k) σ=dlD n k σ (σ.heap (.dict n)):=rfl
@[simp] theorem dlL_ok (n:Nat) (k:Int) (vs:List V):dlL n k σ (some (.list vs))=if 0≤k∧k<vs.length∧n≠0 then some (σ.set (.list n) (.list (vs.eraseIdx k.toNat)))else none:=rfl
@[simp] theorem dlD_ok (n:Nat) (k:Int) (kvs:List (Int×V)):dlD n k σ (some (.dictI kvs))=if(qa8 k kvs).isSome then some (σ.set (.dict n) (.dictI (qds k kvs)))else none:=rfl
@[simp] theorem qx5 (vs:List V):newList vs σ=some (.ref (.list σ.next),σ.new .list (.list vs)):=rfl
noncomputable def leB (σ:St) (o:Option MObj):Option (V×St):=match o with
 |some (.barr b)=>if b.length≤64 then some (.int b.length,σ)else none
 |_=>none
noncomputable def leL (σ:St) (o:Option MObj):Option (V×St):=match o with
 |some (.list vs)=>some (.int vs.length,σ)
 |_=>none
noncomputable def byB (σ:St) (o:Option MObj):Option (V×St):=match o with
 |some (.barr b)=>if b.length≤64 then some (.bytes b,σ)else none
 |_=>none
noncomputable def byI (σ:St) (o:Option (List Int)):Option (V×St):=match o with
 |some is=>if(is.all fun i=>0≤i&&i<256)=true∧is.length≤64 then some (.bytes (is.map qkp),σ)else none
 |none=>none
noncomputable def byL (σ:St) (o:Option MObj):Option (V×St):=match o with
 |some (.list vs)=>byI σ (ints? vs)
 |_=>none
noncomputable def liL (σ:St) (o:Option MObj):Option (V×St):=match o with
 |some (.list vs)=>newList vs σ
 |_=>none
noncomputable def liR (σ:St) (o:Option MObj):Option (V×St):=match o with
 |some (.list vs)=>newList vs.reverse σ
 |_=>none
noncomputable def soI (σ:St) (o:Option (List Int)):Option (V×St):=match o with
 |some is=>if is.length<64 then newList ((qei is).map .int) σ else none
 |none=>none
noncomputable def soL (σ:St) (o:Option MObj):Option (V×St):=match o with
 |some (.list vs)=>soI σ (ints? vs)
 |_=>none
noncomputable def diD (σ:St) (o:Option MObj):Option (V×St):=match o with
 |some (.dictI kvs)=>some (.ref (.dict σ.next),σ.new .dict (.dictI kvs))
 |_=>none
@[simp] theorem bi_lenBy (b:List UInt8):biV .len [.bytes b] σ=if b.length≤64 then some (.int b.length,σ)else none:=rfl
@[simp] theorem bi_lenB (n:Nat):biV .len [.ref (.barr n)] σ=leB σ (σ.heap (.barr n)):=rfl
@[simp] theorem bi_lenL (n:Nat):biV .len [.ref (.list n)] σ=leL σ (σ.heap (.list n)):=rfl
@[simp] theorem bi_byBy (b:List UInt8):biV .bytes [.bytes b] σ=some (.bytes b,σ):=rfl
@[simp] theorem bi_byB (n:Nat):biV .bytes [.ref (.barr n)] σ=byB σ (σ.heap (.barr n)):=rfl
@[simp] theorem bi_byI (k:Int):biV .bytes [.int k] σ=if 0≤k∧k≤64 then some (.bytes (List.replicate k.toNat 0),σ)else none:=rfl
@[simp] theorem bi_byL (n:Nat):biV .bytes [.ref (.list n)] σ=byL σ (σ.heap (.list n)):=rfl
@[simp] theorem bi_ba (b:List UInt8):biV .bytearray [.bytes b] σ=if b.length≤64 then some (.ref (.barr σ.next),σ.new .barr (.barr b))else none:=rfl
@[simp] theorem bi_isI (i:Int):biV .isInt [.int i] σ=some (.bool true,σ):=rfl
@[simp] theorem bi_isB (b:List UInt8):biV .isInt [.bytes b] σ=some (.bool false,σ):=rfl
@[simp] theorem bi_li (n:Nat):biV .list [.ref (.list n)] σ=liL σ (σ.heap (.list n)):=rfl
@[simp] theorem bi_lr (n:Nat):biV .listRev [.ref (.list n)] σ=liR σ (σ.heap (.list n)):=rfl
@[simp] theorem bi_rg (k:Int):biV .listRange [.int k] σ=if 0≤k∧k≤1000 then newList (qbm 0 k) σ else none:=rfl
@[simp] theorem bi_so (n:Nat):biV .sorted [.ref (.list n)] σ=soL σ (σ.heap (.list n)):=rfl
@[simp] theorem bi_di (n:Nat):biV .dict [.ref (.dict n)] σ=diD σ (σ.heap (.dict n)):=rfl
@[simp] theorem leB_ok (b:List UInt8):leB σ (some (.barr b))=if b.length≤64 then some (.int b.length,σ)else none:=rfl
@[simp] theorem leL_ok (vs:List V):leL σ (some (.list vs))=some (.int vs.length,σ):=rfl
@[simp] theorem byB_ok (b:List UInt8):byB σ (some (.barr b))=if b.length≤64 then some (.bytes b,σ)else none:=rfl
@[simp] theorem byL_ok (vs:List V):byL σ (some (.list vs))=byI σ (ints? vs):=rfl
@[simp] theorem byI_ok (is:List Int):byI σ (some is)=if(is.all fun i=>0≤i&&i<256)=true∧is.length≤64 then some (.bytes (is.map qkp),σ)else none:=rfl
@[simp] theorem liL_ok (vs:List V):liL σ (some (.list vs))=newList vs σ:=rfl
@[simp] theorem liR_ok (vs:List V):liR σ (some (.list vs))=newList vs.reverse σ:=rfl
@[simp] theorem soL_ok (vs:List V):soL σ (some (.list vs))=soI σ (ints? vs):=rfl
@[simp] theorem soI_ok (is:List Int):soI σ (some is)=if is.length<64 then newList ((qei is).map .int) σ else none:=rfl
@[simp] theorem diD_ok (kvs:List (Int×V)):diD σ (some (.dictI kvs))=some (.ref (.dict σ.next),σ.new .dict (.dictI kvs)):=rfl
noncomputable def maO (n:Nat) (u:V) (σ:St) (o:Option MObj):Option (V×St):=match o with
 |some (.list xs)=>if xs.length≤100000∧n≠0 then some (.none,σ.set (.list n) (.list (xs++ [u])))else none
 |_=>none
@[simp] theorem m_append (n:Nat) (u:V):qdz (.ref (.list n)) "append" [u] σ=maO n u σ (σ.heap (.list n)):=by
 show hL σ n (fun xs=>if "append" ="append" then one [u] (appM n xs σ)else _)=_
 simp only [if_true];rfl
@[simp] theorem maO_ok (n:Nat) (u:V) (xs:List V):maO n u σ (some (.list xs))=if xs.length≤100000∧n≠0 then some (.none,σ.set (.list n) (.list (xs++ [u])))else none:=rfl
noncomputable def mrS (n:Nat) (σ:St) (o:Option (List V)):Option (V×St):=qdt o fun ys=>some (.none,σ.set (.list n) (.list ys))
noncomputable def mrO (n:Nat) (c:Cls) (k:Nat) (σ:St) (o:Option MObj):Option (V×St):=match o with
 |some (.list xs)=>if n≠0∧(xs.all fun y=>match y with| .ref (.inst c' k')=>(σ.heap (.inst c' k')).isSome|_=>false)=true then mrS n σ (ql5 (.ref (.inst c k)) xs)else none
 |_=>none
noncomputable def mrK (n:Nat) (σ:St) (p:Option (List Int)) (o:Option (List V)):Option (V×St):=qdt p fun _=>qdt o fun ys=>some (.none,σ.set (.list n) (.list ys))
noncomputable def mrJ (n:Nat) (i:Int) (σ:St) (o:Option MObj):Option (V×St):=match o with
 |some (.list xs)=>if n≠0 then mrK n σ (ints? xs) (ql5 (.int i) xs)else none
 |_=>none
@[simp] theorem m_remO (n:Nat) (c:Cls) (k:Nat):qdz (.ref (.list n)) "remove" [.ref (.inst c k)] σ=mrO n c k σ (σ.heap (.list n)):=by
 show hL σ n (fun xs=>if "remove" ="append" then _ else if "remove" ="remove" then one [.ref (.inst c k)] (remM n xs σ)else _)=_
 simp only [show ¬("remove" ="append") by decide,if_false,if_true];rfl
@[simp] theorem m_remI (n:Nat) (i:Int):qdz (.ref (.list n)) "remove" [.int i] σ=mrJ n i σ (σ.heap (.list n)):=by
 show hL σ n (fun xs=>if "remove" ="append" then _ else if "remove" ="remove" then one [.int i] (remM n xs σ)else _)=_
 simp only [show ¬("remove" ="append") by decide,if_false,if_true];rfl
@[simp] theorem mrO_ok (n:Nat) (c:Cls) (k:Nat) (xs:List V):mrO n c k σ (some (.list xs))=if n≠0∧(xs.all fun y=>match y with| .ref (.inst c' k')=>(σ.heap (.inst c' k')).isSome|_=>false)=true then mrS n σ (ql5 (.ref (.inst c k)) xs)else none:=rfl
@[simp] theorem mrS_ok (n:Nat) (ys:List V):mrS n σ (some ys)=some (.none,σ.set (.list n) (.list ys)):=rfl
@[simp] theorem mrJ_ok (n:Nat) (i:Int) (xs:List V):mrJ n i σ (some (.list xs))=if n≠0 then mrK n σ (ints? xs) (ql5 (.int i) xs)else none:=rfl
@[simp] theorem mrK_ok (n:Nat) (is:List Int) (ys:List V):mrK n σ (some is) (some ys)=some (.none,σ.set (.list n) (.list ys)):=rfl
noncomputable def mgO (d:V) (k:Int) (σ:St) (o:Option MObj):Option (V×St):=match o with
 |some (.dictI kvs)=>some ((qa8 k kvs).getD d,σ)
 |_=>none
@[simp] theorem m_get1 (n:Nat) (k:Int):qdz (.ref (.dict n)) "get" [.int k] σ=mgO .none k σ (σ.heap (.dict n)):=by
 show hD σ n (fun kvs=>if "get" ="get" then getM kvs σ [.int k]else _)=_
 simp only [if_true];rfl
@[simp] theorem m_get2 (n:Nat) (k:Int) (d:V):qdz (.ref (.dict n)) "get" [.int k,d] σ=mgO d k σ (σ.heap (.dict n)):=by
 show hD σ n (fun kvs=>if "get" ="get" then getM kvs σ [.int k,d]else _)=_
 simp only [if_true];rfl
@[simp] theorem mgO_ok (d:V) (k:Int) (kvs:List (Int×V)):mgO d k σ (some (.dictI kvs))=some ((qa8 k kvs).getD d,σ):=rfl
noncomputable def mpV (n:Nat) (k:Int) (kvs:List (Int×V)) (σ:St) (o:Option V):Option (V×St):=qdt o fun u=>some (u,σ.set (.dict n) (.dictI (qds k kvs)))
noncomputable def mpO (n:Nat) (k:Int) (σ:St) (o:Option MObj):Option (V×St):=match o with
 |some (.dictI kvs)=>mpV n k kvs σ (qa8 k kvs)
 |_=>none
@[simp] theorem m_pop (n:Nat) (k:Int):qdz (.ref (.dict n)) "pop" [.int k] σ=mpO n k σ (σ.heap (.dict n)):=by
 show hD σ n (fun kvs=>if "pop" ="get" then _ else if "pop" ="pop" then one [.int k] (popM n kvs σ)else _)=_
 simp only [show ¬("pop" ="get") by decide,if_false,if_true];rfl
@[simp] theorem mpO_ok (n:Nat) (k:Int) (kvs:List (Int×V)):mpO n k σ (some (.dictI kvs))=mpV n k kvs σ (qa8 k kvs):=rfl
@[simp] theorem mpV_ok (n:Nat) (k:Int) (kvs:List (Int×V)) (u:V):mpV n k kvs σ (some u)=some (u,σ.set (.dict n) (.dictI (qds k kvs))):=rfl
noncomputable def rI (o:Option MObj):Bool:=match o with|some (.inst _)=>true|_=>false
noncomputable def rL (o:Option MObj):Bool:=match o with|some (.list _)=>true|_=>false
noncomputable def rDi (o:Option MObj):Bool:=match o with|some (.dictI _)=>true|_=>false
@[simp] theorem qqu (c:Cls) (n:Nat):qc8 (.ref (.inst c n)) σ=rI (σ.heap (.inst c n)):=rfl
@[simp] theorem recv_list (n:Nat):qc8 (.ref (.list n)) σ=rL (σ.heap (.list n)):=rfl
@[simp] theorem recv_dict (n:Nat):qc8 (.ref (.dict n)) σ=rDi (σ.heap (.dict n)):=rfl
@[simp] theorem rI_ok (fs:List (String×V)):rI (some (.inst fs))=true:=rfl
@[simp] theorem rL_ok (fs:List V):rL (some (.list fs))=true:=rfl
@[simp] theorem rDi_ok (fs:List (Int×V)):rDi (some (.dictI fs))=true:=rfl
noncomputable def liO (o:Option MObj):Option (List V):=match o with
 |some (.list vs)=>some vs
 |_=>none
@[simp] theorem qhy (n:Nat):qav (.ref (.list n)) σ=liO (σ.heap (.list n)):=rfl
@[simp] theorem liO_ok (vs:List V):liO (some (.list vs))=some vs:=rfl
@[simp] theorem slTo_by (b:List UInt8) (k:Int):qer (.bytes b) (.int k) σ=if 0≤k∧b.length≤1000 then some (.bytes (b.take k.toNat),σ)else none:=rfl
noncomputable def stL (k:Int) (σ:St) (o:Option MObj):Option (V×St):=match o with
 |some (.list vs)=>if 0≤k then some (.ref (.list σ.next),σ.new .list (.list (vs.take k.toNat)))else none
 |_=>none
@[simp] theorem slTo_list (n:Nat) (k:Int):qer (.ref (.list n)) (.int k) σ=stL k σ (σ.heap (.list n)):=rfl
@[simp] theorem stL_ok (k:Int) (vs:List V):stL k σ (some (.list vs))=if 0≤k then some (.ref (.list σ.next),σ.new .list (.list (vs.take k.toNat)))else none:=rfl
@[simp] theorem slFrom_by (b:List UInt8) (k:Int):qdy (.bytes b) (.int k) σ=if 0≤k∧b.length≤1000 then some (.bytes (b.drop k.toNat),σ)else none:=rfl
noncomputable def ssO (n:Nat) (lo hi:Option Int) (b:List UInt8) (σ:St) (o:Option MObj):Option St:=match o with
 |some (.barr old)=>
   if 0≤lo.getD 0∧lo.getD 0≤hi.getD old.length∧hi.getD old.length≤old.length∧(b.length:Int)=hi.getD old.length- lo.getD 0∧old.length≤64 then
    some (σ.set (.barr n) (.barr (old.take (lo.getD 0).toNat++b++old.drop (hi.getD old.length).toNat)))
   else none
 |_=>none
@[simp] theorem ss_barr (n:Nat) (lo hi:Option Int) (b:List UInt8):qcg (.ref (.barr n)) lo hi (.bytes b) σ=ssO n lo hi b σ (σ.heap (.barr n)):=rfl
@[simp] theorem ssO_ok (n:Nat) (lo hi:Option Int) (b old:List UInt8):ssO n lo hi b σ (some (.barr old))=(if 0≤lo.getD 0∧lo.getD 0≤hi.getD old.length∧hi.getD old.length≤old.length∧(b.length:Int)=hi.getD old.length- lo.getD 0∧old.length≤64 then
    some (σ.set (.barr n) (.barr (old.take (lo.getD 0).toNat++b++old.drop (hi.getD old.length).toNat)))
   else none):=rfl
@[simp] theorem srcOf_0 (v:V):qie 0 [v] σ=qav v σ:=rfl
@[simp] theorem srcOf_1 (b:Int):qie 1 [.int b] σ=if-100000≤b∧b≤100000 then some (qbm 0 b)else none:=rfl
@[simp] theorem qv1 (a b:Int):qie 2 [.int a,.int b] σ=if-100000≤a∧a≤100000∧ -100000≤b∧b≤100000 then some (qbm a b)else none:=rfl
theorem qcf {x:String} {l:List String} (h:l.contains x=true):(x∈l)=True:=eq_true (List.contains_iff_mem.mp h)
@[simp] theorem fn_number:("number" ∈fieldNames)=True:=qcf rfl
@[simp] theorem fn_data:("data" ∈fieldNames)=True:=qcf rfl
@[simp] theorem qx6:("holders" ∈fieldNames)=True:=qcf rfl
@[simp] theorem fn_pins:("pins" ∈fieldNames)=True:=qcf rfl
@[simp] theorem fn_disk:("disk" ∈fieldNames)=True:=qcf rfl
@[simp] theorem fn_most:("most" ∈fieldNames)=True:=qcf rfl
@[simp] theorem fn_size:("size" ∈fieldNames)=True:=qcf rfl
@[simp] theorem fn_row:("row" ∈fieldNames)=True:=qcf rfl
@[simp] theorem qty:("by_number" ∈fieldNames)=True:=qcf rfl
@[simp] theorem fn_hits:("hits" ∈fieldNames)=True:=qcf rfl
@[simp] theorem fn_reads:("reads" ∈fieldNames)=True:=qcf rfl
@[simp] theorem fn_writes:("writes" ∈fieldNames)=True:=qcf rfl
@[simp] theorem fn_blocks:("blocks" ∈fieldNames)=True:=qcf rfl
@[simp] theorem fn_kept:("kept" ∈fieldNames)=True:=qcf rfl
@[simp] theorem fn_latest:("latest" ∈fieldNames)=True:=qcf rfl
@[simp] theorem qtz:("unflushed" ∈fieldNames)=True:=qcf rfl
@[simp] theorem qx7:("flushes" ∈fieldNames)=True:=qcf rfl
@[simp] theorem fn_last:("last" ∈fieldNames)=True:=qcf rfl
@[simp] theorem qsn:("last_flush" ∈fieldNames)=True:=qcf rfl
@[simp] theorem qx8:("is_dead" ∈fieldNames)=True:=qcf rfl
end
end Mine.B
end
noncomputable section
namespace Mine.B
theorem qlh:Pm (.f "octets_in")=some qd8:=rfl
theorem qli:Pm (.f "_law_well")=some D__law_well:=rfl
theorem qlj:Pm (.f "_law_draw")=some qdi:=rfl
theorem qlk:Pm (.f "_law_side")=some qfd:=rfl
theorem qll:Pm (.f "_law_deed")=some D__law_deed:=rfl
theorem qlm:Pm (.f "_law_done")=some D__law_done:=rfl
theorem qhz:Pm (.f "_law_between")=some D__law_between:=rfl
theorem qmw:Pm (.f "_law_due")=some qa9:=rfl
theorem qii:Pm (.f "_law_led_on")=some qbp:=rfl
theorem qij:Pm (.f "_law_latest")=some D__law_latest:=rfl
theorem qln:Pm (.f "_law_seen")=some D__law_seen:=rfl
theorem pD_law:Pm (.f "law")=some D_law:=rfl
theorem qfw:Pm (.m .buffer "__init__")=some qb9:=rfl
theorem qgm:Pm (.m .buffer "is_free")=some qcb:=rfl
theorem qg1:Pm (.m .buffer "octets")=some qcj:=rfl
theorem qff:Pm (.m .buffer "need_part")=some qb7:=rfl
theorem qj9:Pm (.m .buffer "put")=some qdo:=rfl
theorem qik:Pm (.m .buffer "fill")=some qdd:=rfl
theorem qgn:Pm (.m .cache "__init__")=some qcc:=rfl
theorem qfg:Pm (.m .cache "need_block")=some qbg:=rfl
theorem qfx:Pm (.m .cache "need_held")=some qbs:=rfl
theorem qlo:Pm (.m .cache "get")=some qdj:=rfl
theorem qfy:Pm (.m .cache "make_room")=some D_Cache_make_room:=rfl
theorem qg2:Pm (.m .cache "release")=some qb8:=rfl
theorem qil:Pm (.m .cache "write")=some qde:=rfl
theorem qka:Pm (.m .cache "peek")=some qc2:=rfl
theorem qkb:Pm (.m .cache "poke")=some qc3:=rfl
theorem qim:Pm (.m .cache "known")=some qd9:=rfl
theorem qh0:Pm (.m .cache "forget")=some D_Cache_forget:=rfl
theorem qg3:Pm (.m .disk "__init__")=some qck:=rfl
theorem qfz:Pm (.m .disk "need_power")=some qbt:=rfl
theorem qf0:Pm (.m .disk "need_block")=some qb0:=rfl
theorem qlp:Pm (.m .disk "read")=some qea:=rfl
theorem qkc:Pm (.m .disk "write")=some qdp:=rfl
theorem qkd:Pm (.m .disk "flush")=some D_Disk_flush:=rfl
theorem qke:Pm (.m .disk "after")=some qem:=rfl
theorem qlq:Pm (.m .disk "copy")=some qfe:=rfl
theorem qan {f:Fn} {D:Def} (h:Pm f=some D) (d:Nat) (vs:List V) (σ:St):qag Pm (d+1) f vs σ=qb3 D (qag Pm d) vs σ:=by
 rw [qag];simp only [h];rfl
theorem qso (h:Loc→Option MObj) (l:Loc) (a b:MObj):upd (upd h l a) l b=upd h l b:=by
 funext x
 unfold upd;split<;>rfl
@[simp] theorem qaa (σ:St) (l l':Loc) (o:MObj):(σ.set l o).heap l'=if l'=l then some o else σ.heap l':=rfl
@[simp] theorem qae (σ:St) (l:Loc) (o:MObj):(σ.set l o).next=σ.next:=rfl
@[simp] theorem qam (σ:St) (mk:Nat→Loc) (l':Loc) (o:MObj):(σ.new mk o).heap l'=if l'=mk σ.next then some o else σ.heap l':=rfl
@[simp] theorem qaf (σ:St) (mk:Nat→Loc) (o:MObj):(σ.new mk o).next=σ.next+1:=rfl
theorem qlr (d:Nat) (vs:List V) (σ:St):qag Pm (d+1) (.f "octets_in") vs σ=qb3 qd8 (qag Pm d) vs σ:=qan qlh d vs σ
theorem qls (d:Nat) (vs:List V) (σ:St):qag Pm (d+1) (.f "_law_well") vs σ=qb3 D__law_well (qag Pm d) vs σ:=qan qli d vs σ
theorem qgw (d:Nat) (vs:List V) (σ:St):qag Pm (d+1) (.f "_law_draw") vs σ=qb3 qdi (qag Pm d) vs σ:=qan qlj d vs σ
theorem qlt (d:Nat) (vs:List V) (σ:St):qag Pm (d+1) (.f "_law_side") vs σ=qb3 qfd (qag Pm d) vs σ:=qan qlk d vs σ
theorem qlu (d:Nat) (vs:List V) (σ:St):qag Pm (d+1) (.f "_law_deed") vs σ=qb3 D__law_deed (qag Pm d) vs σ:=qan qll d vs σ
theorem qbr (d:Nat) (vs:List V) (σ:St):qag Pm (d+1) (.f "_law_done") vs σ=qb3 D__law_done (qag Pm d) vs σ:=qan qlm d vs σ
theorem qen (d:Nat) (vs:List V) (σ:St):qag Pm (d+1) (.f "_law_between") vs σ=qb3 D__law_between (qag Pm d) vs σ:=qan qhz d vs σ
theorem qbb (d:Nat) (vs:List V) (σ:St):qag Pm (d+1) (.f "_law_due") vs σ=qb3 qa9 (qag Pm d) vs σ:=qan qmw d vs σ
theorem qb6 (d:Nat) (vs:List V) (σ:St):qag Pm (d+1) (.f "_law_led_on") vs σ=qb3 qbp (qag Pm d) vs σ:=qan qii d vs σ
theorem qin (d:Nat) (vs:List V) (σ:St):qag Pm (d+1) (.f "_law_latest") vs σ=qb3 D__law_latest (qag Pm d) vs σ:=qan qij d vs σ
theorem qlv (d:Nat) (vs:List V) (σ:St):qag Pm (d+1) (.f "_law_seen") vs σ=qb3 D__law_seen (qag Pm d) vs σ:=qan qln d vs σ
theorem rD_law (d:Nat) (vs:List V) (σ:St):qag Pm (d+1) (.f "law") vs σ=qb3 D_law (qag Pm d) vs σ:=qan pD_law d vs σ
theorem qf1 (d:Nat) (vs:List V) (σ:St):qag Pm (d+1) (.m .buffer "__init__") vs σ=qb3 qb9 (qag Pm d) vs σ:=qan qfw d vs σ
theorem qgo (d:Nat) (vs:List V) (σ:St):qag Pm (d+1) (.m .buffer "is_free") vs σ=qb3 qcb (qag Pm d) vs σ:=qan qgm d vs σ
theorem qg4 (d:Nat) (vs:List V) (σ:St):qag Pm (d+1) (.m .buffer "octets") vs σ=qb3 qcj (qag Pm d) vs σ:=qan qg1 d vs σ
theorem qfh (d:Nat) (vs:List V) (σ:St):qag Pm (d+1) (.m .buffer "need_part") vs σ=qb3 qb7 (qag Pm d) vs σ:=qan qff d vs σ
theorem qkf (d:Nat) (vs:List V) (σ:St):qag Pm (d+1) (.m .buffer "put") vs σ=qb3 qdo (qag Pm d) vs σ:=qan qj9 d vs σ
theorem qio (d:Nat) (vs:List V) (σ:St):qag Pm (d+1) (.m .buffer "fill") vs σ=qb3 qdd (qag Pm d) vs σ:=qan qik d vs σ
theorem qgp (d:Nat) (vs:List V) (σ:St):qag Pm (d+1) (.m .cache "__init__") vs σ=qb3 qcc (qag Pm d) vs σ:=qan qgn d vs σ
theorem qb4 (d:Nat) (vs:List V) (σ:St):qag Pm (d+1) (.m .cache "need_block") vs σ=qb3 qbg (qag Pm d) vs σ:=qan qfg d vs σ
theorem qcl (d:Nat) (vs:List V) (σ:St):qag Pm (d+1) (.m .cache "need_held") vs σ=qb3 qbs (qag Pm d) vs σ:=qan qfx d vs σ
theorem qgx (d:Nat) (vs:List V) (σ:St):qag Pm (d+1) (.m .cache "get") vs σ=qb3 qdj (qag Pm d) vs σ:=qan qlo d vs σ
theorem qdq (d:Nat) (vs:List V) (σ:St):qag Pm (d+1) (.m .cache "make_room") vs σ=qb3 D_Cache_make_room (qag Pm d) vs σ:=qan qfy d vs σ
theorem qef (d:Nat) (vs:List V) (σ:St):qag Pm (d+1) (.m .cache "release") vs σ=qb3 qb8 (qag Pm d) vs σ:=qan qg2 d vs σ
theorem qip (d:Nat) (vs:List V) (σ:St):qag Pm (d+1) (.m .cache "write") vs σ=qb3 qde (qag Pm d) vs σ:=qan qil d vs σ
theorem qf2 (d:Nat) (vs:List V) (σ:St):qag Pm (d+1) (.m .cache "peek") vs σ=qb3 qc2 (qag Pm d) vs σ:=qan qka d vs σ
theorem qf3 (d:Nat) (vs:List V) (σ:St):qag Pm (d+1) (.m .cache "poke") vs σ=qb3 qc3 (qag Pm d) vs σ:=qan qkb d vs σ
theorem qiq (d:Nat) (vs:List V) (σ:St):qag Pm (d+1) (.m .cache "known") vs σ=qb3 qd9 (qag Pm d) vs σ:=qan qim d vs σ
theorem qh1 (d:Nat) (vs:List V) (σ:St):qag Pm (d+1) (.m .cache "forget") vs σ=qb3 D_Cache_forget (qag Pm d) vs σ:=qan qh0 d vs σ
theorem qg5 (d:Nat) (vs:List V) (σ:St):qag Pm (d+1) (.m .disk "__init__") vs σ=qb3 qck (qag Pm d) vs σ:=qan qg3 d vs σ
theorem qcm (d:Nat) (vs:List V) (σ:St):qag Pm (d+1) (.m .disk "need_power") vs σ=qb3 qbt (qag Pm d) vs σ:=qan qfz d vs σ
theorem qdr (d:Nat) (vs:List V) (σ:St):qag Pm (d+1) (.m .disk "need_block") vs σ=qb3 qb0 (qag Pm d) vs σ:=qan qf0 d vs σ
theorem qlw (d:Nat) (vs:List V) (σ:St):qag Pm (d+1) (.m .disk "read") vs σ=qb3 qea (qag Pm d) vs σ:=qan qlp d vs σ
theorem qkg (d:Nat) (vs:List V) (σ:St):qag Pm (d+1) (.m .disk "write") vs σ=qb3 qdp (qag Pm d) vs σ:=qan qkc d vs σ
theorem qkh (d:Nat) (vs:List V) (σ:St):qag Pm (d+1) (.m .disk "flush") vs σ=qb3 D_Disk_flush (qag Pm d) vs σ:=qan qkd d vs σ
theorem qki (d:Nat) (vs:List V) (σ:St):qag Pm (d+1) (.m .disk "after") vs σ=qb3 qem (qag Pm d) vs σ:=qan qke d vs σ
theorem qlx (d:Nat) (vs:List V) (σ:St):qag Pm (d+1) (.m .disk "copy") vs σ=qb3 qfe (qag Pm d) vs σ:=qan qlq d vs σ
section
variable {d:Nat} {σ:St}
end
end Mine.B
end
noncomputable section
namespace Mine.B
noncomputable def qe0 (num bid:Nat) (k:Nat):MObj:= .inst [("number",.int num),("data",.ref (.barr bid)),("holders",.int k),("pins",.int 0)]
noncomputable def qbo (bl sz k l u dw fl:Nat):MObj:= .inst [("blocks",.int bl),("size",.int sz),("kept",.ref (.dict k)),("latest",.ref (.dict l)),("unflushed",.ref (.list u)),("writes",.int dw),("flushes",.int fl),("last",.none),("last_flush",.none),("is_dead",.bool false)]
noncomputable def qbl (dk most sz r y h rd wr:Nat):MObj:= .inst [("disk",.ref (.inst .disk dk)),("most",.int most),("size",.int sz),("row",.ref (.list r)),("by_number",.ref (.dict y)),("hits",.int h),("reads",.int rd),("writes",.int wr)]
section
variable {d:Nat} {σ:St}
theorem qex {i num bid k:Nat} (h:σ.heap (.inst .buffer i)=some (qe0 num bid k)):
  qag Pm (d+1) (.m .buffer "is_free") [.ref (.inst .buffer i)] σ=some (.bool (decide (k=0)),σ):=by
 rw [qgo];by_cases q:k=0<;>simp(decide:=true) [-String.reduceEq,-String.reduceNe,-BEq.rfl,qcb,qe0,h,q]
theorem qje {i num bid k:Nat} {dat:List UInt8} (h:σ.heap (.inst .buffer i)=some (qe0 num bid k)) (hb:σ.heap (.barr bid)=some (.barr dat)) (hl:dat.length≤64):
  qag Pm (d+1) (.m .buffer "octets") [.ref (.inst .buffer i)] σ=some (.bytes dat,σ):=by
 rw [qg4];simp(decide:=true) [-String.reduceEq,-String.reduceNe,-BEq.rfl,qcj,qe0,h,hb,hl]
theorem qv2 {i num bid k p:Nat} {dat bs:List UInt8} (h:σ.heap (.inst .buffer i)=some (qe0 num bid k)) (hb:σ.heap (.barr bid)=some (.barr dat)) (hl:dat.length≤64) (hp:p+bs.length=dat.length):
  qag Pm (d+2) (.m .buffer "put") [.ref (.inst .buffer i),.int p,.bytes bs] σ=some (.none,σ.set (.barr bid) (.barr (dat.take p++bs))):=by
 have h1:bs.length≤64:=by(with_reducible exact oq26 ‹_› ‹_›)
 have h2: ¬(p:Int)<0:=by(with_reducible exact oq13)
 have h3: ¬(bs.length:Int)<0:=by(with_reducible exact oq13)
 have h4: ¬(dat.length:Int)<(p:Int)+bs.length:=by lia
 have h5:(p:Int)≤(p:Int)+bs.length:=by lia
 have h6:(p:Int)+bs.length≤dat.length:=by lia
 have h7:(bs.length:Int)=(p:Int)+bs.length- p:=by lia
 have h8:((p:Int)+bs.length).toNat=dat.length:=by lia
 rw [qkf];simp(decide:=true) [-String.reduceEq,-String.reduceNe,-BEq.rfl,qdo,qb7,qfh,qe0,h,hb,hl,h1,h2,h3,h4,h5,h6,←h7,h8]
theorem qsp {i num bid k:Nat} {dat bs:List UInt8} (h:σ.heap (.inst .buffer i)=some (qe0 num bid k)) (hb:σ.heap (.barr bid)=some (.barr dat)) (hl:dat.length≤64) (hp:bs.length=dat.length):
  qag Pm (d+1) (.m .buffer "fill") [.ref (.inst .buffer i),.bytes bs] σ=some (.none,σ.set (.barr bid) (.barr bs)):=by
 rw [qio];simp(decide:=true) [-String.reduceEq,-String.reduceNe,-BEq.rfl,qdd,qe0,h,hb,hl,hp]
theorem qh2 {i bl sz kd l u dw fl n:Nat} {kvs:List (Int×V)} (h:σ.heap (.inst .disk i)=some (qbo bl sz kd l u dw fl)) (hl:σ.heap (.dict l)=some (.dictI kvs)) (hn:n<bl) (hs:sz≤64):
  qag Pm (d+2) (.m .disk "read") [.ref (.inst .disk i),.int n] σ=some ((qa8 n kvs).getD (.bytes (List.replicate sz 0)),σ):=by
 have h1:(n:Int)<bl:=by(with_reducible exact Int.ofNat_lt.mpr ‹_›)
 have h2:(sz:Int)≤64:=by lia
 rw [qlw];simp(decide:=true) [-String.reduceEq,-String.reduceNe,-BEq.rfl,qea,qbt,qcm,qb0,qdr,qbo,h,hl,h1,h2]
theorem qgq {i bl sz kd l u dw fl n:Nat} {kvs:List (Int×V)} {us:List V} {bs:List UInt8} (h:σ.heap (.inst .disk i)=some (qbo bl sz kd l u dw fl)) (hl:σ.heap (.dict l)=some (.dictI kvs)) (hu:σ.heap (.list u)=some (.list us)) (hn:n<bl) (hs:sz≤64)
  (hb:bs.length=sz) (hk:kvs.length≤100000) (hus:us.length≤100000) (hu0:u≠0):
  qag Pm (d+2) (.m .disk "write") [.ref (.inst .disk i),.int n,.bytes bs] σ=some (.none,(((σ.set (.inst .disk i) (qbo bl sz kd l u (dw+1) fl)).set (.dict l) (.dictI (qbd n (.bytes bs) kvs))).new .tup (.tup [.int n,.bytes bs])).set (.list u) (.list (us++ [.ref (.tup σ.next)]))):=by
 have h1:(n:Int)<bl:=by(with_reducible exact Int.ofNat_lt.mpr ‹_›)
 have h2:(sz:Int)≤64:=by lia
 have h3:bs.length≤64:=by(with_reducible exact qko ‹_› ‹_› (by decide))
 rw [qkg];simp(decide:=true) [-String.reduceEq,-String.reduceNe,-BEq.rfl,qdp,qbt,qcm,qb0,qdr,qd8,qlr,qbo,h,hl,hu,h1,h2,h3,hb,hk,hus,hu0,hs]
end
end Mine.B
end
noncomputable section
namespace Mine.B
noncomputable def fup {α:Type} (f:Nat→α) (n:Nat) (v:α):Nat→α:=fun m=>if m=n then v else f m
theorem qat {α:Type} (f:Nat→α) (n:Nat) (v:α):fup f n v n=v:=if_pos rfl
theorem qak {α:Type} (f:Nat→α) {n m:Nat} (v:α) (h:m≠n):fup f n v m=f m:=if_neg h
structure G where
 kn:List Nat
 ids:Nat→Nat
 bds:Nat→Nat
 hold:Nat→Nat
 dat:Nat→List UInt8
 lat:Nat→List UInt8
 hits:Nat
 rd:Nat
 wr:Nat
structure Go (O O':Nat→Prop) (σ σ':St):Prop where
 le:σ.next≤σ'.next
 eq: ∀l:Loc,l.n<σ.next→ ¬O l.n→σ'.heap l=σ.heap l
 own: ∀k,O' k→O k∨σ.next≤k
theorem Go.refl (O:Nat→Prop) (σ:St):Go O O σ σ:=⟨Nat.le_refl _,fun _ _ _=>rfl,fun _ h=> .inl h⟩
theorem Go.trans {O O' O'':Nat→Prop} {σ σ' σ'':St} (a:Go O O' σ σ') (b:Go O' O'' σ' σ''):Go O O'' σ σ'':=
 ⟨Nat.le_trans a.le b.le,fun l hl ho=>(b.eq l (Nat.lt_of_lt_of_le hl a.le) fun q=>(a.own _ q).elim ho fun z=>absurd hl (Nat.not_lt.mpr z)).trans (a.eq l hl ho),
  fun k hk=>(b.own k hk).elim (a.own k) fun z=> .inr (Nat.le_trans a.le z)⟩
structure CR (σ:St) (O:Nat→Prop) (b most bl sz T:Nat) (g:G):Prop where
 cache:σ.heap (.inst .cache (b+9))=some (qbl (b+1) most sz (b+10) (b+11) g.hits g.rd g.wr)
 disk: ∃dw,σ.heap (.inst .disk (b+1))=some (qbo bl sz (b+7) (b+8) (b+4) dw 0)
 row:σ.heap (.list (b+10))=some (.list (g.kn.map fun n=> .ref (.inst .buffer (g.ids n))))
 by_: ∃kvs,σ.heap (.dict (b+11))=some (.dictI kvs)∧kvs.length≤T∧ ∀n:Nat,qa8 n kvs=if n∈g.kn then some (.ref (.inst .buffer (g.ids n)))else none
 lats: ∃kvs,σ.heap (.dict (b+8))=some (.dictI kvs)∧kvs.length≤T∧ ∀n:Nat,n<bl→qa8 n kvs=some (.bytes (g.lat n))
 unf: ∃us,σ.heap (.list (b+4))=some (.list us)∧us.length≤T
 buf: ∀n∈g.kn,σ.heap (.inst .buffer (g.ids n))=some (qe0 n (g.bds n) (g.hold n))∧σ.heap (.barr (g.bds n))=some (.barr (g.dat n))
 bufo: ∀n∈g.kn,O (g.ids n)∧O (g.bds n)∧(g.dat n).length=sz∧n<bl
 inji: ∀n∈g.kn,∀m∈g.kn,g.ids n=g.ids m→n=m
 injb: ∀n∈g.kn,∀m∈g.kn,g.bds n=g.bds m→n=m
 nd:g.kn.Nodup
 latl: ∀n,n<bl→(g.lat n).length=sz
 own: ∀k,b≤k→k<b+12→O k
 lt: ∀k,O k→k<σ.next
 szl:sz≤64
 knm:g.kn.length≤most
 mostl:most≤100
section
variable {σ:St} {O:Nat→Prop} {b most bl sz T:Nat} {g:G}
theorem Go.set {l:Loc} {o:MObj} (h:O l.n):Go O O σ (σ.set l o):=
 ⟨Nat.le_refl _,fun l' _ ho=>by rw [qaa,if_neg];rintro rfl;exact ho h,fun _ h=> .inl h⟩
theorem Go.newMore {mk:Nat→Loc} {o:MObj} (h:(mk σ.next).n=σ.next):Go O O σ (σ.new mk o):=
 ⟨Nat.le_succ _,fun l' hl ho=>by rw [qam,if_neg];rintro rfl;rw [h]at hl;exact Nat.lt_irrefl _ hl,fun _ h=> .inl h⟩
theorem CR.mono {T':Nat} (c:CR σ O b most bl sz T g) (h:T≤T'):CR σ O b most bl sz T' g:=
 {c with by_:=c.by_.imp fun _ q=>⟨q.1,Nat.le_trans q.2.1 h,q.2.2⟩,lats:=c.lats.imp fun _ q=>⟨q.1,Nat.le_trans q.2.1 h,q.2.2⟩,unf:=c.unf.imp fun _ q=>⟨q.1,Nat.le_trans q.2 h⟩}
theorem CR.frame {σ':St} (c:CR σ O b most bl sz T g) (hle:σ.next≤σ'.next) (h: ∀l:Loc,O l.n→σ'.heap l=σ.heap l):CR σ' O b most bl sz T g:= {
 c with
 cache:=(h _ (c.own _ (by simp [Loc.n]) (by simp [Loc.n]))).trans c.cache
 disk:=c.disk.imp fun _ q=>(h _ (c.own _ (by simp [Loc.n]) (by simp [Loc.n]))).trans q
 row:=(h _ (c.own _ (by simp [Loc.n]) (by simp [Loc.n]))).trans c.row
 by_:=c.by_.imp fun _ q=>⟨(h _ (c.own _ (by simp [Loc.n]) (by simp [Loc.n]))).trans q.1,q.2⟩
 lats:=c.lats.imp fun _ q=>⟨(h _ (c.own _ (by simp [Loc.n]) (by simp [Loc.n]))).trans q.1,q.2⟩
 unf:=c.unf.imp fun _ q=>⟨(h _ (c.own _ (by simp [Loc.n]) (by simp [Loc.n]))).trans q.1,q.2⟩
 buf:=fun n hn=>⟨(h (.inst .buffer (g.ids n)) (c.bufo n hn).1).trans (c.buf n hn).1,(h (.barr (g.bds n)) (c.bufo n hn).2.1).trans (c.buf n hn).2⟩
 lt:=fun k hk=>Nat.lt_of_lt_of_le (c.lt k hk) hle}
theorem CR.newMore {mk:Nat→Loc} {o:MObj} (c:CR σ O b most bl sz T g) (h:(mk σ.next).n=σ.next):CR (σ.new mk o) O b most bl sz T g:=
 c.frame (Nat.le_succ _) fun l hl=>by rw [qam,if_neg];rintro rfl;exact Nat.lt_irrefl _ (h ▸ c.lt _ hl)
theorem CR.setHold (c:CR σ O b most bl sz T g) {n:Nat} (hn:n∈g.kn) (k:Nat):CR (σ.set (.inst .buffer (g.ids n)) (qe0 n (g.bds n) k)) O b most bl sz T {g with hold:=fup g.hold n k}:= {
 c with
 cache:=by simpa [qaa]using c.cache
 disk:=by simpa [qaa]using c.disk
 row:=by simpa [qaa]using c.row
 by_:=by simpa [qaa]using c.by_
 lats:=by simpa [qaa]using c.lats
 unf:=by simpa [qaa]using c.unf
 buf:=fun m hm=>by
  by_cases e:m=n
  ·subst e;simp [qaa,qat,(c.buf m hm).2]
  ·have:g.ids m≠g.ids n:=fun q=>e (c.inji m hm n hn q)
   simp [qaa,this,qak _ _ e,(c.buf m hm)]}
theorem CR.setDat (c:CR σ O b most bl sz T g) {n:Nat} (hn:n∈g.kn) (bs:List UInt8) (hb:bs.length=sz):CR (σ.set (.barr (g.bds n)) (.barr bs)) O b most bl sz T {g with dat:=fup g.dat n bs}:= {
 c with
 cache:=by simpa [qaa]using c.cache
 disk:=by simpa [qaa]using c.disk
 row:=by simpa [qaa]using c.row
 by_:=by simpa [qaa]using c.by_
 lats:=by simpa [qaa]using c.lats
 unf:=by simpa [qaa]using c.unf
 buf:=fun m hm=>by
  by_cases e:m=n
  ·subst e;simp [qaa,qat,(c.buf m hm).1]
  ·have:g.bds m≠g.bds n:=fun q=>e (c.injb m hm n hn q)
   simp [qaa,this,qak _ _ e,(c.buf m hm)]
 bufo:=fun m hm=>by
  refine⟨(c.bufo m hm).1,(c.bufo m hm).2.1,?_,(c.bufo m hm).2.2.2⟩
  show(fup g.dat n bs m).length=sz
  unfold fup;split
  ·exact hb
  ·exact(c.bufo m hm).2.2.1}
theorem CR.setCount (c:CR σ O b most bl sz T g) (h r w:Nat):CR (σ.set (.inst .cache (b+9)) (qbl (b+1) most sz (b+10) (b+11) h r w)) O b most bl sz T {g with hits:=h,rd:=r,wr:=w}:= {
 c with
 cache:=by simp [qaa]
 disk:=by simpa [qaa]using c.disk
 row:=by simpa [qaa]using c.row
 by_:=by simpa [qaa]using c.by_
 lats:=by simpa [qaa]using c.lats
 unf:=by simpa [qaa]using c.unf
 buf:=by simpa [qaa]using c.buf}
theorem CR.setRow (c:CR σ O b most bl sz T g) (kn:List Nat) (kvs:List (Int×V)) (hnd:kn.Nodup) (hk: ∀n∈kn,n∈g.kn) (hlen:kn.length≤g.kn.length) (hT:kvs.length≤T) (hg: ∀n:Nat,qa8 n kvs=if n∈kn then some (.ref (.inst .buffer (g.ids n)))else none):
  CR ((σ.set (.dict (b+11)) (.dictI kvs)).set (.list (b+10)) (.list (kn.map fun n=> .ref (.inst .buffer (g.ids n))))) O b most bl sz T {g with kn:=kn}:= {
 c with
 cache:=by simpa [qaa]using c.cache
 disk:=by simpa [qaa]using c.disk
 row:=by simp [qaa]
 by_:=⟨kvs,by simp [qaa],hT,hg⟩
 lats:=by simpa [qaa]using c.lats
 unf:=by simpa [qaa]using c.unf
 buf:=fun n hn=>by simpa [qaa]using c.buf n (hk n hn)
 bufo:=fun n hn=>c.bufo n (hk n hn)
 inji:=fun n hn m hm=>c.inji n (hk n hn) m (hk m hm)
 injb:=fun n hn m hm=>c.injb n (hk n hn) m (hk m hm)
 nd:=hnd
 knm:=Nat.le_trans hlen c.knm}
theorem CR.setPerm (c:CR σ O b most bl sz T g) (kn:List Nat) (hp:kn.Perm g.kn):
  CR (σ.set (.list (b+10)) (.list (kn.map fun n=> .ref (.inst .buffer (g.ids n))))) O b most bl sz T {g with kn:=kn}:= {
 c with
 cache:=by simpa [qaa]using c.cache
 disk:=by simpa [qaa]using c.disk
 row:=by simp [qaa]
 by_:=by
  refine qao c.by_ fun kvs h1 h2 h3=>?_
  exact⟨kvs,by simpa [qaa]using h1,h2,fun n=>by rw [h3];simp only [hp.mem_iff]⟩
 lats:=by simpa [qaa]using c.lats
 unf:=by simpa [qaa]using c.unf
 buf:=fun n hn=>by simpa [qaa]using c.buf n (hp.mem_iff.mp hn)
 bufo:=fun n hn=>c.bufo n (hp.mem_iff.mp hn)
 inji:=fun n hn m hm=>c.inji n (hp.mem_iff.mp hn) m (hp.mem_iff.mp hm)
 injb:=fun n hn m hm=>c.injb n (hp.mem_iff.mp hn) m (hp.mem_iff.mp hm)
 nd:=hp.nodup_iff.mpr c.nd
 knm:=by show kn.length≤most;rw [hp.length_eq];exact c.knm}
theorem qa0 (k:Int) (v:V) (kvs:List (Int×V)):(qbd k v kvs).length≤kvs.length+1:=by
 unfold qbd;split<;>simp
theorem qh3 (k:Int) (kvs:List (Int×V)):(qds k kvs).length≤kvs.length:=List.length_filter_le ..
theorem qa5 (k j:Int) (v:V): ∀kvs:List (Int×V),qa8 j (qbd k v kvs)=if j=k then some v else qa8 j kvs:=by
 have h1: ∀kvs:List (Int×V),kvs.any (fun kv=>kv.1=k)=true→qa8 j (kvs.map fun kv=>if kv.1=k then(kv.1,v)else kv)=if j=k then some v else qa8 j kvs:=by
  intro kvs h;have e1:((fun kv:Int×V=>decide (kv.1=j)) ∘ fun kv=>if kv.1=k then(kv.1,v)else kv)=fun kv=>decide (kv.1=j):=by
   funext kv
   simp only [Function.comp];split<;>rfl
  unfold qa8;rw [List.find?_map,e1];cases hf:kvs.find? (fun kv=>decide (kv.1=j))with
  |none=>
   by_cases q:j=k
   ·subst q;refine qac (List.any_eq_true.mp h) fun x hx hy=>?_
    exact absurd hy (List.find?_eq_none.mp hf x hx)
   ·simp [q]
  |some kv=>
   have e:kv.1=j:=by simpa using List.find?_some hf
   by_cases q:j=k
   ·simp [e,q]
   ·simp [e,q]
 intro kvs;unfold qbd;split
 ·next h=>exact h1 kvs h
 ·next h=>
  have hno: ∀x∈kvs,x.1≠k:=fun x hx y=>h (List.any_eq_true.mpr ⟨x,hx,by simp [y]⟩)
  unfold qa8;rw [List.find?_append];by_cases q:j=k
  ·subst q;have:kvs.find? (fun kv=>decide (kv.1=j))=none:=List.find?_eq_none.mpr fun x hx=>by simp [hno x hx]
   simp [this]
  ·have: ¬k=j:=fun z=>q z.symm
   simp [this,q]
theorem qh4 (k j:Int): ∀kvs:List (Int×V),qa8 j (qds k kvs)=if j=k then none else qa8 j kvs:=by
 intro kvs;unfold qa8 qds
 induction kvs with
 |nil=>simp
 |cons p r ih=>
  by_cases e:p.1=k
  ·rw [List.filter_cons_of_neg (by simp [e]),ih];by_cases q:j=k
   ·simp [q]
   ·have: ¬k=j:=fun z=>q z.symm
    simp [q,e,this]
  ·rw [List.filter_cons_of_pos (by simp [e])];by_cases q:p.1=j
   ·have: ¬j=k:=fun z=>e (q.trans z)
    simp [q,this]
   ·rw [List.find?_cons_of_neg (by simp [q]),List.find?_cons_of_neg (by simp [q]),ih]
theorem CR.setLat (c:CR σ O b most bl sz T g) {dw n:Nat} {kvs:List (Int×V)} {us:List V} {t:MObj} (hd:σ.heap (.inst .disk (b+1))=some (qbo bl sz (b+7) (b+8) (b+4) dw 0)) (hl:σ.heap (.dict (b+8))=some (.dictI kvs)) (hT:kvs.length≤T) (hg: ∀n:Nat,n<bl→qa8 n kvs=some (.bytes (g.lat n)))
  (hu:us.length≤T) (bs:List UInt8) (hb:bs.length=sz) (x:V):
  CR ((((σ.set (.inst .disk (b+1)) (qbo bl sz (b+7) (b+8) (b+4) (dw+1) 0)).set (.dict (b+8)) (.dictI (qbd n (.bytes bs) kvs))).new .tup t).set (.list (b+4)) (.list (us++ [x]))) O b most bl sz (T+1) {g with lat:=fup g.lat n bs}:=by
 have c1:CR (σ.new .tup t) O b most bl sz (T+1) g:=(c.newMore rfl).mono (Nat.le_succ _)
 have hlt: ∀k,O k→k<σ.next+1:=fun k hk=>Nat.lt_succ_of_lt (c.lt k hk)
 exact {
  c1 with
  cache:=by simpa [qaa,qam,qae]using c.cache
  disk:=⟨dw+1,by simp [qaa,qam]⟩
  row:=by simpa [qaa,qam]using c.row
  by_:=by
   refine qao c.by_ fun k h1 h2 h3=>?_
   exact⟨k,by simpa [qaa,qam]using h1,Nat.le_succ_of_le h2,h3⟩
  lats:=⟨qbd n (.bytes bs) kvs,by simp [qaa,qam],Nat.le_trans (qa0 ..) (by(with_reducible exact oq6 ‹_› (by decide))),fun m hm=>by
   rw [qa5];show _=some (V.bytes (fup g.lat n bs m))
   by_cases e:m=n
   ·subst e;simp [qat]
   ·have: ¬(m:Int)=n:=by(with_reducible exact qo7 ‹_›)
    rw [if_neg this,hg m hm,qak _ _ e]⟩
  unf:=⟨us++ [x],by simp [qaa],by simp;(with_reducible assumption)⟩
  buf:=fun m hm=>by simpa [qaa,qam]using c.buf m hm
  latl:=fun m hm=>by
   show(fup g.lat n bs m).length=sz
   unfold fup;split
   ·exact hb
   ·exact c.latl m hm
  lt:=hlt}
theorem CR.addBuf (c:CR σ O b most bl sz T g) {n i q:Nat} (hn:n∉g.kn) (hroom:g.kn.length<most) (hb:n<bl) (bs:List UInt8) (hl:bs.length=sz) (k:Nat) {kvs:List (Int×V)} (h1:σ.heap (.inst .buffer i)=some (qe0 n q k)) (h2:σ.heap (.barr q)=some (.barr bs))
  (hy:σ.heap (.dict (b+11))=some (.dictI kvs)) (hkv:kvs.length≤T) (hg: ∀n:Nat,qa8 n kvs=if n∈g.kn then some (.ref (.inst .buffer (g.ids n)))else none)
  (hi:i<σ.next) (hq:q<σ.next) (hi2: ∀m∈g.kn,g.ids m≠i) (hq2: ∀m∈g.kn,g.bds m≠q):
  CR ((σ.set (.dict (b+11)) (.dictI (qbd n (.ref (.inst .buffer i)) kvs))).set (.list (b+10)) (.list ((g.kn.map fun n=> .ref (.inst .buffer (g.ids n)))++ [.ref (.inst .buffer i)]))) (fun k=>O k∨k=i∨k=q) b most bl sz (T+1)
   {g with kn:=g.kn++ [n],ids:=fup g.ids n i,bds:=fup g.bds n q,hold:=fup g.hold n k,dat:=fup g.dat n bs}:=by
 have hne: ∀m∈g.kn,m≠n:=fun m hm e=>hn (e ▸ hm)
 have emap:(g.kn++ [n]).map (fun m=>V.ref (.inst .buffer (fup g.ids n i m)))=(g.kn.map fun n=> .ref (.inst .buffer (g.ids n)))++ [.ref (.inst .buffer i)]:=by
  rw [List.map_append];congr 1
  ·exact List.map_congr_left fun m hm=>by rw [qak _ _ (hne m hm)]
  ·simp [qat]
 exact {
  cache:=by simpa [qaa]using c.cache
  disk:=by simpa [qaa]using c.disk
  row:=by rw [emap];simp [qaa]
  by_:=⟨qbd n (.ref (.inst .buffer i)) kvs,by simp [qaa],Nat.le_trans (qa0 ..) (by(with_reducible exact oq6 ‹_› (by decide))),fun m=>by
   rw [qa5,hg];by_cases e:m=n
   ·subst e;simp [qat]
   ·have: ¬(m:Int)=n:=by(with_reducible exact qo7 ‹_›)
    simp [this,e,qak _ _ e]⟩
  lats:=by
   refine qao c.lats fun kv q1 q2 q3=>?_
   exact⟨kv,by simpa [qaa]using q1,Nat.le_succ_of_le q2,q3⟩
  unf:=by
   refine qac c.unf fun u q1 q2=>?_
   exact⟨u,by simpa [qaa]using q1,Nat.le_succ_of_le q2⟩
  buf:=fun m hm=>by
   rcases List.mem_append.mp hm with hm|hm
   ·simpa [qaa,qak _ _ (hne m hm)]using c.buf m hm
   ·obtain rfl:=List.mem_singleton.mp hm
    simp [qaa,qat,h1,h2]
  bufo:=fun m hm=>by
   rcases List.mem_append.mp hm with h3|h3
   ·refine⟨.inl ?_,.inl ?_,?_,(c.bufo m h3).2.2.2⟩
    ·show O (fup g.ids n i m);rw [qak _ _ (hne m h3)];exact(c.bufo m h3).1
    ·show O (fup g.bds n q m);rw [qak _ _ (hne m h3)];exact(c.bufo m h3).2.1
    ·show(fup g.dat n bs m).length=sz;rw [qak _ _ (hne m h3)];exact(c.bufo m h3).2.2.1
   ·have e:=List.mem_singleton.mp h3
    subst e;exact⟨.inr (.inl (qat ..)),.inr (.inr (qat ..)),by show(fup g.dat m bs m).length=sz;rw [qat];exact hl,hb⟩
  inji:=fun m hm m' hm'=>by
   show fup g.ids n i m=fup g.ids n i m'→m=m'
   rcases List.mem_append.mp hm with h3|h3<;>rcases List.mem_append.mp hm' with h4|h4
   ·rw [qak _ _ (hne m h3),qak _ _ (hne m' h4)];exact c.inji m h3 m' h4
   ·rw [List.mem_singleton.mp h4,qak _ _ (hne m h3),qat];exact fun e=>absurd e (hi2 m h3)
   ·rw [List.mem_singleton.mp h3,qak _ _ (hne m' h4),qat];exact fun e=>absurd e.symm (hi2 m' h4)
   ·rw [List.mem_singleton.mp h3,List.mem_singleton.mp h4];exact fun _=>rfl
  injb:=fun m hm m' hm'=>by
   show fup g.bds n q m=fup g.bds n q m'→m=m'
   rcases List.mem_append.mp hm with h3|h3<;>rcases List.mem_append.mp hm' with h4|h4
   ·rw [qak _ _ (hne m h3),qak _ _ (hne m' h4)];exact c.injb m h3 m' h4
   ·rw [List.mem_singleton.mp h4,qak _ _ (hne m h3),qat];exact fun e=>absurd e (hq2 m h3)
   ·rw [List.mem_singleton.mp h3,qak _ _ (hne m' h4),qat];exact fun e=>absurd e.symm (hq2 m' h4)
   ·rw [List.mem_singleton.mp h3,List.mem_singleton.mp h4];exact fun _=>rfl
  nd:=by
   rw [List.nodup_append];exact⟨c.nd,by simp,fun x hx y hy=>by rw [List.mem_singleton.mp hy];exact hne x hx⟩
  latl:=c.latl
  own:=fun k h1 h2=> .inl (c.own k h1 h2)
  lt:=fun k hk=>by
   rcases hk with hk|rfl|rfl
   ·exact c.lt k hk
   ·exact hi
   ·exact hq
  szl:=c.szl
  mostl:=c.mostl
  knm:=by show(g.kn++ [n]).length≤most;rw [List.length_append];exact hroom}
end
end Mine.B
end
noncomputable section
namespace Mine.B
noncomputable def l0:Locs:=fun _=>none
theorem qbv (C:Calls) (s:MS) (r:List MS) (l:Locs) (σ:St):qbk C (s::r) l σ=qjp (evS C s l σ) (qbk C r):=rfl
theorem qap {C:Calls} {s:MS} {r:List MS} {l l':Locs} {σ σ':St} (h:evS C s l σ=some (.next,l',σ')):qbk C (s::r) l σ=qbk C r l' σ':=by rw [qbv,h];rfl
theorem qv3 {C:Calls} {s:MS} {r:List MS} {l l':Locs} {σ σ':St} {v:V} (h:evS C s l σ=some (.ret v,l',σ')):qbk C (s::r) l σ=some (.ret v,l',σ'):=by rw [qbv,h];rfl
theorem qox {C:Calls} {x y:String} {it:ME} {body:List MS} {l:Locs} {σ σ₁:St} {v:V} {vs:List V} (h1:evE C l it σ=some (v,σ₁)) (h2:qav v σ₁=some vs):
  evS C (.forEnum x y it body) l σ=qgz (fun σ=>decide (qav v σ=some vs)) (fun i u l σ=>qbk C body ((l.set x (.int i)).set y u) σ) 0 vs l σ₁:=by
 rw [qpa,h1];show qdt (qav v σ₁) _=_
 rw [h2];rfl
theorem qgr {C:Calls} {x:String} {it:ME} {body:List MS} {l:Locs} {σ σ₁:St} {v:V} {vs:List V} (h1:evE C l it σ=some (v,σ₁)) (h2:qav v σ₁=some vs):
  evS C (.forL x it body) l σ=qch (fun σ=>decide (qav v σ=some vs)) (fun u l σ=>qbk C body (l.set x u) σ) vs l σ₁:=by
 rw [qys,h1];show qdt (qav v σ₁) _=_
 rw [h2];rfl
theorem qly {C:Calls} {x:String} {it:ME} {body:List MS} {l:Locs} {σ σ₁:St} {v:V} {vs:List V} (h1:evE C l it σ=some (v,σ₁)) (h2:qav v σ₁=some vs):
  evS C (.forRev x it body) l σ=qch (fun σ=>decide (qav v σ=some vs)) (fun u l σ=>qbk C body (l.set x u) σ) vs.reverse l σ₁:=by
 rw [qrn,h1];show qdt (qav v σ₁) _=_
 rw [h2];rfl
theorem qjf {qar:St→Bool} {turn:Nat→V→Locs→St→R} {i:Nat} {v:V} {r:List V} {l:Locs} {σ:St} (h:qar σ=true):qgz qar turn i (v::r) l σ=qjp (turn i v l σ) (qgz qar turn (i+1) r):=by
 show(match qar σ with|true=>qjp (turn i v l σ) (qgz qar turn (i+1) r)|false=>none)=_
 rw [h]
theorem qbn {qar:St→Bool} {turn:V→Locs→St→R} {v:V} {r:List V} {l:Locs} {σ:St} (h:qar σ=true):qch qar turn (v::r) l σ=qjp (turn v l σ) (qch qar turn r):=by
 show(match qar σ with|true=>qjp (turn v l σ) (qch qar turn r)|false=>none)=_
 rw [h]
theorem qcn {qar:St→Bool} {turn:V→Locs→St→R} {l:Locs} {σ:St} (h:qar σ=true):qch qar turn [] l σ=some (.next,l,σ):=by
 show(match qar σ with|true=>some (MFl.next,l,σ)|false=>none)=_
 rw [h]
theorem qh5 {f:V→M (Option V)} {σ:St} {g:V→Option V}: ∀{src:List V},(∀v∈src,f v σ=some (g v,σ))→qgd f src σ=some (src.filterMap g,σ)
 | [],_=>rfl
 |v::r,h=>by
  have h1:=h v (.head _)
  have h2:=qh5 (src:=r) fun u hu=>h u (.tail _ hu)
  show bind (f v σ) _=_
  rw [h1];show bind (qgd f r σ) _=_
  rw [h2,List.filterMap_cons];cases g v<;>rfl
theorem qf4 {C:Calls} {l:Locs} {elt:ME} {x:String} {k:Nat} {its:List ME} {σ σ₁:St} {ws src:List V} {f:V→V} (h0:l ".0" =none) (h1:qdc C l its σ=some (ws,σ₁)) (h2:qie k ws σ₁=some src) (hs:qar k ws src σ₁=true)
  (h3: ∀v∈src,evE C (l.set x v) elt σ₁=some (f v,σ₁)):evE C l (.comp elt x k its none) σ=some (.ref (.list σ₁.next),σ₁.new .list (.list (src.map f))):=by
 rw [qm7,h1];simp only [bind,qdt,h0,Option.isNone_none,if_true,h2];rw [qh5 (g:=fun v=>some (f v)) (src:=src) (σ:=σ₁)]
 ·simp only [hs,newList];rw [List.filterMap_eq_map']
 ·intro v hv;rw [hs];show bind (evE C (l.set x v) elt σ₁) _=_
  rw [h3 v hv];rfl
theorem qmx {C:Calls} {l:Locs} {elt c:ME} {x:String} {k:Nat} {its:List ME} {σ σ₁:St} {ws src:List V} {f:V→V} {p:V→Bool} (h0:l ".0" =none) (h1:qdc C l its σ=some (ws,σ₁)) (h2:qie k ws σ₁=some src) (hs:qar k ws src σ₁=true)
  (h3: ∀v∈src,evE C (l.set x v) c σ₁=some (.bool (p v),σ₁)) (h4: ∀v∈src,evE C (l.set x v) elt σ₁=some (f v,σ₁)):evE C l (.comp elt x k its (some c)) σ=some (.ref (.list σ₁.next),σ₁.new .list (.list ((src.filter p).map f))):=by
 have e:src.filterMap (fun v=>if p v=true then some (f v)else none)=(src.filter p).map f:=by
  clear h2 hs h3 h4
  induction src with
  |nil=>rfl
  |cons v r ih=>
   cases q:p v<;>simp [q,ih]
 rw [qm7,h1];simp only [bind,qdt,h0,Option.isNone_none,if_true,h2];rw [qh5 (g:=fun v=>if p v then some (f v)else none) (src:=src) (σ:=σ₁)]
 ·simp only [hs,newList];rw [e]
 ·intro v hv;rw [hs];show bind (evE C (l.set x v) c σ₁) _=_
  rw [h3 v hv];show(match p v with|true=>bind (evE C (l.set x v) elt σ₁) _|false=>_)=_
  rw [h4 v hv];cases p v<;>rfl
section
variable {d:Nat} {σ:St} {O:Nat→Prop} {b most bl sz T:Nat} {g:G}
theorem qsq (c:CR σ O b most bl sz T g) (h:g.kn.length<most):qag Pm (d+1) (.m .cache "make_room") [.ref (.inst .cache (b+9))] σ=some (.none,σ):=by
 rw [qdq];simp(decide:=true) [-String.reduceEq,-String.reduceNe,-BEq.rfl,D_Cache_make_room,c.cache,qbl,c.row,h]
noncomputable def qf5:List MS:=match D_Cache_make_room.body with
 | [_,.forEnum _ _ _ b,_]=>b
 |_=> []
theorem qjg (c:CR σ O b most bl sz T g) {kvs:List (Int×V)} (hy:σ.heap (.dict (b+11))=some (.dictI kvs)) (hg: ∀n:Nat,qa8 n kvs=if n∈g.kn then some (.ref (.inst .buffer (g.ids n)))else none) {m:Nat} (hm:m∈g.kn) (hm0:g.hold m=0) (post:List Nat) (at_:Nat) (hat:at_<g.kn.length):
  ∀(pre:List Nat) (i:Nat) (l:Locs),i+pre.length=at_→(∀x∈pre,x∈g.kn∧g.hold x≠0)→l "self" =some (.ref (.inst .cache (b+9)))→
  ∃l',qgz (fun s=>decide (qav (.ref (.list (b+10))) s=some (g.kn.map fun n=> .ref (.inst .buffer (g.ids n))))) (fun i u l s=>qbk (qag Pm (d+1)) qf5 ((l.set "place" (.int i)).set "buffer" u) s) i ((pre++m::post).map fun n=> .ref (.inst .buffer (g.ids n))) l σ=
   some (.ret .none,l',(σ.set (.dict (b+11)) (.dictI (qds m kvs))).set (.list (b+10)) (.list ((g.kn.map fun n=> .ref (.inst .buffer (g.ids n))).eraseIdx at_)))
 | [],i,l,hi,_,hl=>by
  have hi:i=at_:=by simpa using hi
  subst hi;have hst:decide (qav (.ref (.list (b+10))) σ=some (g.kn.map fun n=> .ref (.inst .buffer (g.ids n))))=true:=by simp [qav,c.row]
  rw [List.nil_append,List.map_cons,qjf hst];have hbuf:=(c.buf m hm).1
  rw [hm0]at hbuf;have hfree:=qex (d:=d) hbuf
  have hin:=hg m
  rw [if_pos hm]at hin;have hb10:b+10≠0:=by lia
  exact⟨_,by simp(decide:=true) [-String.reduceEq,-String.reduceNe,-BEq.rfl,qf5,D_Cache_make_room,hl,hfree,hbuf,qe0,c.cache,qbl,hy,hin,c.row,hat];rfl⟩
 |x::pre,i,l,hi,hp,hl=>by
  have hst:decide (qav (.ref (.list (b+10))) σ=some (g.kn.map fun n=> .ref (.inst .buffer (g.ids n))))=true:=by simp [qav,c.row]
  rw [List.cons_append,List.map_cons,qjf hst];have hbuf:=(c.buf x (hp x (.head _)).1).1
  have hfree:=qex (d:=d) hbuf
  have h0:=(hp x (.head _)).2
  have e:qbk (qag Pm (d+1)) qf5 ((l.set "place" (.int i)).set "buffer" (.ref (.inst .buffer (g.ids x)))) σ=some (.next,(l.set "place" (.int i)).set "buffer" (.ref (.inst .buffer (g.ids x))),σ):=by
   simp(decide:=true) [-String.reduceEq,-String.reduceNe,-BEq.rfl,qf5,D_Cache_make_room,hl,hfree,hbuf,qe0,h0]
  rw [e];exact qjg c hy hg hm hm0 post at_ hat pre (i+1) _ (by simp at hi ⊢;lia) (fun y hy=>hp y (.tail _ hy)) (by simp [Locs.set,hl])
theorem qqv (c:CR σ O b most bl sz T g) (hfull: ¬g.kn.length<most) {m:Nat} {pre post:List Nat} (hk:g.kn=pre++m::post) (hm0:g.hold m=0) (hp: ∀x∈pre,g.hold x≠0) {GG:Prop} (kk: ∀σ',qag Pm (d+2) (.m .cache "make_room") [.ref (.inst .cache (b+9))] σ=some (.none,σ')→CR σ' O b most bl sz T {g with kn:=pre++post}→Go O O σ σ'→GG):GG:=by
 refine qao c.by_ fun kvs hy hT hg=>?_
 have hm:m∈g.kn:=by rw [hk];simp
 have hat:pre.length<g.kn.length:=by rw [hk];simp
 refine qaj (qjg (d:=d) c hy hg hm hm0 post pre.length hat pre 0 (l0.set "self" (.ref (.inst .cache (b+9)))) (by simp) (fun x hx=>⟨by rw [hk];exact List.mem_append_left _ hx,hp x hx⟩) (by simp [Locs.set])) fun l' hloop=>?_
 rw [←hk]at hloop;have hrow:(g.kn.map fun n=>V.ref (.inst .buffer (g.ids n))).eraseIdx pre.length=(pre++post).map fun n=>V.ref (.inst .buffer (g.ids n)):=by
  rw [hk,List.map_append,List.map_cons,List.eraseIdx_append_of_length_le (by simp)];simp
 rw [hrow]at hloop;have hnd:=c.nd
 rw [hk]at hnd;have hnd':(pre++post).Nodup:=List.Nodup.sublist (List.Sublist.append (List.Sublist.refl _) (List.sublist_cons_self ..)) hnd
 have hmn:m∉pre++post:=by
  rw [List.nodup_append]at hnd;refine qeg hnd fun _ h2 h3=>?_
  intro q;rcases List.mem_append.mp q with q|q
  ·exact h3 m q m (.head _) rfl
  ·exact(List.nodup_cons.mp h2).1 q
 have hget: ∀n:Nat,qa8 n (qds m kvs)=if n∈pre++post then some (.ref (.inst .buffer (g.ids n)))else none:=fun n=>by
  rw [qh4,hg];by_cases e:n=m
  ·subst e;rw [if_pos rfl,if_neg hmn]
  ·have: ¬(n:Int)=m:=by(with_reducible exact qo7 ‹_›)
   simp [this,hk,e]
 refine kk _ ?_ (c.setRow (pre++post) (qds m kvs) hnd' (fun n hn=>?_) (by rw [hk];simp) (Nat.le_trans (qh3 ..) hT) hget) ((Go.set (c.own _ (by simp [Loc.n]) (by simp [Loc.n]))).trans (Go.set (c.own _ (by simp [Loc.n]) (by simp [Loc.n]))))
 ·rw [qdq];show qez (qbk (qag Pm (d+1)) D_Cache_make_room.body (l0.set "self" (.ref (.inst .cache (b+9)))) σ)=_
  unfold D_Cache_make_room;rw [qap (l':=l0.set "self" (.ref (.inst .cache (b+9)))) (σ':=σ) (by simp(decide:=true) [-String.reduceEq,-String.reduceNe,-BEq.rfl,c.cache,qbl,c.row,hfull])];rw [qv3 (by
   rw [qox (v:= .ref (.list (b+10))) (σ₁:=σ) (vs:=g.kn.map fun n=> .ref (.inst .buffer (g.ids n))) (by simp(decide:=true) [-String.reduceEq,-String.reduceNe,-BEq.rfl,c.cache,qbl]) (by simp [qav,c.row])];exact hloop)]
  rfl
 ·rw [hk];rcases List.mem_append.mp hn with q|q
  ·exact List.mem_append_left _ q
  ·exact List.mem_append_right _ (.tail _ q)
end
end Mine.B
end
noncomputable section
namespace Mine.B
section
variable {d:Nat} {σ:St} {O:Nat→Prop} {b most bl sz T:Nat} {g:G}
theorem qmy (c:CR σ O b most bl sz T g) {n:Nat} (hn:n∈g.kn) {GG:Prop} (kk: ∀σ',qag Pm (d+3) (.m .cache "get") [.ref (.inst .cache (b+9)),.int n] σ=some (.ref (.inst .buffer (g.ids n)),σ')→CR σ' O b most bl sz T {g with hits:=g.hits+1,hold:=fup g.hold n (g.hold n+1)}→Go O O σ σ'→GG):GG:=by
 refine qao c.by_ fun kvs hy hT hg=>?_
 refine qaj c.disk fun dw hdk=>?_
 have hin:=hg n
 rw [if_pos hn]at hin;have hbl:(n:Int)<bl:=by have:=(c.bufo n hn).2.2.2;(with_reducible exact Int.ofNat_lt.mpr ‹_›)
 have hbuf:=(c.buf n hn).1
 have c1:=c.setCount (g.hits+1) g.rd g.wr
 have c2:=c1.setHold (n:=n) hn (g.hold n+1)
 refine kk _ ?_ c2 ((Go.set (c.own _ (by simp [Loc.n]) (by simp [Loc.n]))).trans (Go.set (l:= .inst .buffer (g.ids n)) (c.bufo n hn).1))
 rw [qgx];simp(decide:=true) [-String.reduceEq,-String.reduceNe,-BEq.rfl,l0,qdj,qbg,qb4,c.cache,qbl,hdk,qbo,hy,hin,hbl,hbuf,qe0]
theorem qqw {σm:St} {gm:G} (c:CR σ O b most bl sz T g) (cm:CR σm O b most bl sz T gm) (hgo:Go O O σ σm) {n:Nat} (hn:n∉g.kn) (hnm:n∉gm.kn) (hroom:gm.kn.length<most) (hTb:T≤1000) (hbl:n<bl) (hmr:qag Pm (d+2) (.m .cache "make_room") [.ref (.inst .cache (b+9))] σ=some (.none,σm)) {GG:Prop} (kk: ∀σ' O' i q,qag Pm (d+3) (.m .cache "get") [.ref (.inst .cache (b+9)),.int n] σ=some (.ref (.inst .buffer i),σ')→CR σ' O' b most bl sz (T+1) {gm with kn:=gm.kn++ [n],ids:=fup gm.ids n i,bds:=fup gm.bds n q,hold:=fup gm.hold n 1,dat:=fup gm.dat n (gm.lat n),rd:=gm.rd+1}→Go O O' σ σ'→GG):GG:=by
 refine qao c.by_ fun kv0 hy0 _ hg0=>?_
 refine qaj c.disk fun dw0 hdk0=>?_
 refine qao cm.by_ fun kvs hy hT hg=>?_
 refine qaj cm.disk fun dw hdk=>?_
 refine qao cm.lats fun ls hls _ hlg=>?_
 have hin:=hg0 n
 rw [if_neg hn]at hin;have hbl':(n:Int)<bl:=by(with_reducible exact Int.ofNat_lt.mpr ‹_›)
 have hlat:=hlg n hbl
 have hlen:=cm.latl n hbl
 have hl64:(gm.lat n).length≤64:=by have:=cm.szl;(with_reducible exact qko ‹_› ‹_› (by decide))
 have hno: ∀k,σm.next≤k→ ¬O k:=fun k hk q=>absurd (cm.lt k q) (Nat.not_lt.mpr hk)
 have hread:=qh2 (d:=d) hdk hls hbl cm.szl
 rw [hlat]at hread;simp only [Option.getD_some]at hread;have hk1:kvs.length≤100000:=by(with_reducible exact Nat.le_trans ‹_› (Nat.le_trans ‹_› (by decide)))
 have hk2:gm.kn.length≤100000:=by have:=cm.mostl;lia
 let i:=σm.next
 let s1:=σm.new (.inst .buffer) (.inst [])
 let s2:=s1.set (.inst .buffer i) (.inst [("number",.int n)])
 let s3:=s2.new .barr (.barr (gm.lat n))
 let s4:=s3.set (.inst .buffer i) (.inst [("number",.int n),("data",.ref (.barr (i+1)))])
 let s5:=s4.set (.inst .buffer i) (.inst [("number",.int n),("data",.ref (.barr (i+1))),("holders",.int 0)])
 let s6:=s5.set (.inst .buffer i) (qe0 n (i+1) 0)
 let s7:=s6.set (.inst .cache (b+9)) (qbl (b+1) most sz (b+10) (b+11) gm.hits (gm.rd+1) gm.wr)
 let s8:=s7.set (.dict (b+11)) (.dictI (qbd n (.ref (.inst .buffer i)) kvs))
 let s9:=s8.set (.list (b+10)) (.list ((gm.kn.map fun n=> .ref (.inst .buffer (gm.ids n)))++ [.ref (.inst .buffer i)]))
 let s10:=s9.set (.inst .buffer i) (qe0 n (i+1) 1)
 have hidne: ∀m∈gm.kn,gm.ids m≠i:=fun m hm e=>hno i (Nat.le_refl _) (e ▸ (cm.bufo m hm).1)
 have hbdne: ∀m∈gm.kn,gm.bds m≠i+1:=fun m hm e=>hno (i+1) (Nat.le_succ _) (e ▸ (cm.bufo m hm).2.1)
 have c6:CR s6 O b most bl sz T gm:=cm.frame (by show σm.next≤σm.next+1+1;lia) fun l hl=>by
  have h1:l≠ .inst .buffer i:=by rintro rfl;exact hno i (Nat.le_refl _) hl
  have h2:l≠ .barr (i+1):=by rintro rfl;exact hno (i+1) (Nat.le_succ _) hl
  simp [s6,s5,s4,s3,s2,s1,qaa,qam,qaf,qae,h1,h2]
  rw [if_neg h2];exact if_neg h1
 have c7:=c6.setCount gm.hits (gm.rd+1) gm.wr
 have c9:=c7.addBuf (n:=n) (i:=i) (q:=i+1) hnm hroom hbl (gm.lat n) hlen 0 (kvs:=kvs) (by simp [s6,qaa]) (by simp [s6,s5,s4,s3,qaa,qam,s2,s1,qae,qaf,i])
  (by simpa [s6,s5,s4,s3,s2,s1,qaa,qam]using hy) hT hg (by show σm.next<σm.next+1+1;lia) (by show σm.next+1<σm.next+1+1;(with_reducible exact qyh (by decide))) hidne hbdne
 have c10:=c9.setHold (n:=n) (by simp) 1
 simp only [qat]at c10;have e:fup (fup gm.hold n 0) n 1=fup gm.hold n 1:=by funext m;unfold fup;split<;>rfl
 rw [e]at c10;refine kk s10 (fun k=>O k∨k=i∨k=i+1) i (i+1) ?_ c10 (hgo.trans ⟨by show σm.next≤σm.next+1+1;lia,fun l hl ho=>?_,fun k hk=>?_⟩)
 ·rw [qgx];simp(decide:=true) [-String.reduceEq,-String.reduceNe,-BEq.rfl,l0,qdj,qbg,qb4,c.cache,qbl,hdk0,qbo,hy0,hin,hbl',hmr,qe0,cm.cache,hdk,hread,qf1,qb9,hl64,hy,cm.row,hk1,hk2,s10,s9,s8,s7,s6,s5,s4,s3,s2,s1,i]
 ·have h1:l≠ .inst .buffer i:=by rintro rfl;exact Nat.lt_irrefl _ hl
  have h2:l≠ .barr (i+1):=by rintro rfl;exact absurd hl (by show ¬σm.next+1<σm.next;lia)
  have h3:l≠ .inst .cache (b+9):=by rintro rfl;exact ho (cm.own _ (by simp [Loc.n]) (by simp [Loc.n]))
  have h4:l≠ .dict (b+11):=by rintro rfl;exact ho (cm.own _ (by simp [Loc.n]) (by simp [Loc.n]))
  have h5:l≠ .list (b+10):=by rintro rfl;exact ho (cm.own _ (by simp [Loc.n]) (by simp [Loc.n]))
  simp [s10,s9,s8,s7,s6,s5,s4,s3,s2,s1,qaa,qam,qaf,qae,h1,h2,h3,h4,h5]
  rw [if_neg h2];exact if_neg h1
 ·rcases hk with hk|rfl|rfl
  ·exact .inl hk
  ·exact .inr (Nat.le_refl _)
  ·exact .inr (Nat.le_succ _)
end
end Mine.B
end
noncomputable section
namespace Mine.B
theorem qsr (σ:St) (l:Loc) (a c:MObj):(σ.set l a).set l c=σ.set l c:=by
 unfold St.set;simp only [qso]
theorem qg8 {f:Nat→V} {n:Nat}: ∀{kn:List Nat},(∀m∈kn,f m=f n→m=n)→n∈kn→ql5 (f n) (kn.map f)=some ((kn.erase n).map f)
 | [],_,h=>by cases h
 |x::r,hi,h=>by
  rw [List.map_cons,ql5];by_cases e:x=n
  ·subst e;rw [if_pos rfl,List.erase_cons_head]
  ·rw [if_neg fun q=>e (hi x (.head _) q)];have hr:n∈r:=by
    cases h with
    |head=>exact absurd rfl e
    |tail _ h=>exact h
   rw [qg8 (fun m hm=>hi m (.tail _ hm)) hr,List.erase_cons_tail (by simpa using e)];rfl
section
variable {d:Nat} {σ:St} {O:Nat→Prop} {b most bl sz T:Nat} {g:G}
theorem CR.cells (c:CR σ O b most bl sz T g):((g.kn.map fun n=>V.ref (.inst .buffer (g.ids n))).all fun y=>match y with| .ref (.inst c' k')=>(σ.heap (.inst c' k')).isSome|_=>false)=true:=by
 rw [List.all_map,List.all_eq_true];intro n hn;simp [(c.buf n hn).1]
theorem qgy (c:CR σ O b most bl sz T g) {n k:Nat} (hn:n∈g.kn) (hk:g.hold n=k+2) {GG:Prop} (kk: ∀σ',qag Pm (d+2) (.m .cache "release") [.ref (.inst .cache (b+9)),.ref (.inst .buffer (g.ids n))] σ=some (.none,σ')→CR σ' O b most bl sz T {g with hold:=fup g.hold n (k+1)}→Go O O σ σ'→GG):GG:=by
 refine qao c.by_ fun kvs hy hT hg=>?_
 have hin:=hg n
 rw [if_pos hn]at hin;have hbuf:=(c.buf n hn).1
 rw [hk]at hbuf;refine kk _ ?_ (c.setHold hn (k+1)) (Go.set (l:= .inst .buffer (g.ids n)) (c.bufo n hn).1)
 have h1: ¬(k:Int)+2=0:=by lia
 have h2:(k:Int)+2- 1=k+1:=by lia
 have h3: ¬(k:Int)+1=0:=by lia
 rw [qef];simp(decide:=true) [-String.reduceEq,-String.reduceNe,-BEq.rfl,l0,qb8,qbs,qcl,c.cache,qbl,hy,hin,hbuf,qe0,h1,h2,h3]
theorem qlz (c:CR σ O b most bl sz T g) {n:Nat} (hn:n∈g.kn) (hk:g.hold n=1):
  ∃σ',qag Pm (d+2) (.m .cache "release") [.ref (.inst .cache (b+9)),.ref (.inst .buffer (g.ids n))] σ=some (.none,σ')∧CR σ' O b most bl sz T {g with kn:=g.kn.erase n++ [n],hold:=fup g.hold n 0}∧Go O O σ σ':=by
 refine qao c.by_ fun kvs hy hT hg=>?_
 have hin:=hg n
 rw [if_pos hn]at hin;have hbuf:=(c.buf n hn).1
 rw [hk]at hbuf;have c1:=c.setHold hn 0
 have hrem:=qg8 (f:=fun n=>V.ref (.inst .buffer (g.ids n))) (n:=n) (kn:=g.kn) (fun m hm q=>c.inji m hm n hn (by simpa using q)) hn
 have hcells:=c1.cells
 have hlen:(g.kn.erase n).length≤100000:=by have:=List.length_erase_le (a:=n) (l:=g.kn);have:=c.knm;have:=c.mostl;lia
 have hp:(g.kn.erase n++ [n]).Perm g.kn:=(List.perm_append_comm).trans (List.perm_cons_erase hn).symm
 have c2:=c1.setPerm (g.kn.erase n++ [n]) hp
 refine⟨_,?_,c2,(Go.set (l:= .inst .buffer (g.ids n)) (c.bufo n hn).1).trans (Go.set (c.own _ (by simp [Loc.n]) (by simp [Loc.n])))⟩
 have hcells:(∀x:Nat,x∈g.kn→(if g.ids x=g.ids n then some (MObj.inst [("number",V.int n),("data",.ref (.barr (g.bds n))),("holders",.int 0),("pins",.int 0)])else σ.heap (.inst .buffer (g.ids x))).isSome=true)=True:=eq_true fun x hx=>by
  split
  ·rfl
  ·rw [(c.buf x hx).1];rfl
 rw [qef];simp(decide:=true) [-String.reduceEq,-String.reduceNe,-BEq.rfl,l0,qb8,qbs,qcl,c.cache,qbl,hy,hin,hbuf,qe0,c.row,hrem,hlen,hcells,qsr]
theorem qoy (c:CR σ O b most bl sz T g) {n k:Nat} (hn:n∈g.kn) (hk:g.hold n=k+1) (hTb:T≤1000):
  ∃σ',qag Pm (d+3) (.m .cache "write") [.ref (.inst .cache (b+9)),.ref (.inst .buffer (g.ids n))] σ=some (.none,σ')∧CR σ' O b most bl sz (T+1) {g with lat:=fup g.lat n (g.dat n),wr:=g.wr+1}∧Go O O σ σ':=by
 refine qao c.by_ fun kvs hy hT hg=>?_
 refine qaj c.disk fun dw hdk=>?_
 refine qao c.lats fun ls hls hlT hlg=>?_
 refine qac c.unf fun us hus huT=>?_
 have hin:=hg n
 rw [if_pos hn]at hin;have hbuf:=(c.buf n hn).1
 rw [hk]at hbuf;have hlen:=(c.bufo n hn).2.2.1
 have hoct:=qje (d:=d+1) hbuf (c.buf n hn).2 (by have:=c.szl;(with_reducible exact qko ‹_› ‹_› (by decide)))
 have hwr:=qgq (d:=d) hdk hls hus (c.bufo n hn).2.2.2 c.szl hlen (by(with_reducible exact Nat.le_trans ‹_› (Nat.le_trans ‹_› (by decide)))) (by(with_reducible exact Nat.le_trans ‹_› (Nat.le_trans ‹_› (by decide)))) (by lia)
 have c1:=c.setLat (n:=n) (t:= .tup [.int n,.bytes (g.dat n)]) hdk hls hlT hlg huT (g.dat n) hlen (.ref (.tup σ.next))
 have c2:=c1.setCount g.hits g.rd (g.wr+1)
 refine⟨_,?_,c2,((((Go.set (c.own _ (by simp [Loc.n]) (by simp [Loc.n]))).trans (Go.set (c.own _ (by simp [Loc.n]) (by simp [Loc.n])))).trans (Go.newMore rfl)).trans (Go.set (c.own _ (by simp [Loc.n]) (by simp [Loc.n])))).trans (Go.set (c.own _ (by simp [Loc.n]) (by simp [Loc.n])))⟩
 have h1: ¬(k:Int)+1=0:=by lia
 have hcache:=c1.cache
 simp only [qaa,qam]at hcache;rw [qip];simp(decide:=true) [-String.reduceEq,-String.reduceNe,-BEq.rfl,l0,qde,qbs,qcl,c.cache,qbl,hy,hin,hbuf,qe0,h1,hoct,hdk,qbo]at hwr ⊢
 simp(decide:=true) [-String.reduceEq,-String.reduceNe,-BEq.rfl,l0,hwr,c.cache,qbl]
theorem qqx (c:CR σ O b most bl sz T g) {n:Nat} {bs:List UInt8} (hn:n<bl) (hb:bs.length=sz) (hTb:T≤1000) {GG:Prop} (kk: ∀σ',qag Pm (d+2) (.m .disk "write") [.ref (.inst .disk (b+1)),.int n,.bytes bs] σ=some (.none,σ')→CR σ' O b most bl sz (T+1) {g with lat:=fup g.lat n bs}→Go O O σ σ'→GG):GG:=by
 refine qaj c.disk fun dw hdk=>?_
 refine qao c.lats fun ls hls hlT hlg=>?_
 refine qac c.unf fun us hus huT=>?_
 have hwr:=qgq (d:=d) hdk hls hus hn c.szl hb (by(with_reducible exact Nat.le_trans ‹_› (Nat.le_trans ‹_› (by decide)))) (by(with_reducible exact Nat.le_trans ‹_› (Nat.le_trans ‹_› (by decide)))) (by lia)
 exact kk _ hwr (c.setLat (n:=n) hdk hls hlT hlg huT bs hb _) ((((Go.set (c.own _ (by simp [Loc.n]) (by simp [Loc.n]))).trans (Go.set (c.own _ (by simp [Loc.n]) (by simp [Loc.n])))).trans (Go.newMore rfl)).trans (Go.set (c.own _ (by simp [Loc.n]) (by simp [Loc.n]))))
theorem qqy (c:CR σ O b most bl sz T g):qag Pm (d+1) (.m .cache "known") [.ref (.inst .cache (b+9))] σ=some (.ref (.list σ.next),σ.new .list (.list (g.kn.map fun n:Nat=>V.int n))):=by
 rw [qiq];have:=qf4 (C:=qag Pm d) (l:=l0.set "self" (.ref (.inst .cache (b+9)))) (elt:= .attr (.var "buffer") "number") (x:="buffer") (k:=0) (its:= [.attr (.var "self") "row"]) (σ:=σ) (σ₁:=σ)
  (ws:= [.ref (.list (b+10))]) (src:=g.kn.map fun n=>V.ref (.inst .buffer (g.ids n))) (f:=fun v=>match v with| .ref l=>(match qid (.ref l) "number" σ with|some u=>u|none=> .none)|_=> .none) rfl (by simp(decide:=true) [-String.reduceEq,-String.reduceNe,-BEq.rfl,c.cache,qbl]) (by simp [c.row]) (by simp [qar,qav,c.row]) (by
   intro v hv;refine qac (List.mem_map.mp hv) fun n hn e9_2=>?_;subst e9_2
   simp(decide:=true) [-String.reduceEq,-String.reduceNe,-BEq.rfl,(c.buf n hn).1,qe0])
 show qez (qbk (qag Pm d) [.ret (.comp (.attr (.var "buffer") "number") "buffer" 0 [.attr (.var "self") "row"] none)] (l0.set "self" (.ref (.inst .cache (b+9)))) σ)=_
 rw [qbv,ql6,this];simp only [qa6,qjp,qez,List.map_map];congr 4
 refine List.map_congr_left fun n hn=>?_
 simp [(c.buf n hn).1,qe0]
end
end Mine.B
end
noncomputable section
namespace Mine.B
theorem qqz {α:Type} (f:Nat→α) (n:Nat) (a c:α):fup (fup f n a) n c=fup f n c:=by funext m;unfold fup;split<;>rfl
theorem qkj {α:Type} (f:Nat→α) (n:Nat):fup f n (f n)=f:=by
 funext m;unfold fup;split
 ·next e=>rw [e]
 ·rfl
noncomputable def qeo (kn:List Nat) (hold:Nat→Nat) (most n:Nat):List Nat:=if n∈kn then kn else if kn.length<most then kn++ [n]else kn.eraseP (fun m=>hold m=0)++ [n]
noncomputable def qd4 (g:G) (most n i q:Nat):G:= {g with kn:=qeo g.kn g.hold most n,ids:=fup g.ids n i,bds:=fup g.bds n q,hold:=fup g.hold n 1,dat:=fup g.dat n (if n∈g.kn then g.dat n else g.lat n),hits:=if n∈g.kn then g.hits+1 else g.hits,rd:=if n∈g.kn then g.rd else g.rd+1}
noncomputable def ql0 (g:G) (n:Nat):G:= {g with kn:=g.kn.erase n++ [n],hold:=fup g.hold n 0}
noncomputable def qir (g:G) (n:Nat) (bs:List UInt8):G:= {g with dat:=fup g.dat n bs}
noncomputable def qco (g:G) (n:Nat):G:= {g with lat:=fup g.lat n (g.dat n),wr:=g.wr+1}
section
variable {d:Nat} {σ:St} {O:Nat→Prop} {b most bl sz T:Nat} {g:G}
theorem qg9 (c:CR σ O b most bl sz T g) {n:Nat} (hbl:n<bl) (h0:n∈g.kn→g.hold n=0) (hsp:n∈g.kn∨g.kn.length<most∨ ∃m∈g.kn,g.hold m=0) (hTb:T≤1000) {GG:Prop} (kk: ∀σ' O' i q,qag Pm (d+3) (.m .cache "get") [.ref (.inst .cache (b+9)),.int n] σ=some (.ref (.inst .buffer i),σ')→CR σ' O' b most bl sz (T+1) (qd4 g most n i q)→Go O O' σ σ'→n∈(qd4 g most n i q).kn→GG):GG:=by
 by_cases hn:n∈g.kn
 ·refine qmy (d:=d) c hn fun σ' h1 h2 h3=>?_
  refine kk σ' O (g.ids n) (g.bds n) h1 ?_ h3 ?_
  ·have e:qd4 g most n (g.ids n) (g.bds n)= {g with hits:=g.hits+1,hold:=fup g.hold n (g.hold n+1)}:=by
    unfold qd4 qeo;simp only [if_pos hn,qkj,h0 hn]
   rw [e];exact h2.mono (Nat.le_succ _)
  ·unfold qd4 qeo;simp only [if_pos hn];exact hn
 ·by_cases hr:g.kn.length<most
  ·refine qqw (d:=d) c c (Go.refl O σ) hn hn hr hTb hbl (qsq c hr) fun σ' O' i q h1 h2 h3=>?_
   have e:qd4 g most n i q= {g with kn:=g.kn++ [n],ids:=fup g.ids n i,bds:=fup g.bds n q,hold:=fup g.hold n 1,dat:=fup g.dat n (g.lat n),rd:=g.rd+1}:=by
    unfold qd4 qeo;simp only [if_neg hn,if_pos hr]
   refine kk σ' O' i q h1 (by rw [e];exact h2) h3 (by rw [e];simp)
  ·have hm: ∃m∈g.kn,g.hold m=0:=(hsp.resolve_left hn).resolve_left hr
   refine qac hm fun m0 hm0 hz=>?_
   refine qt3 (List.exists_of_eraseP (p:=fun m=>decide (g.hold m=0)) hm0 (by simpa using hz)) fun m pre post p1 p2 p3 p4=>?_
   have p2:g.hold m=0:=by simpa using p2
   have p1: ∀x∈pre,g.hold x≠0:=fun x hx=>by simpa using p1 x hx
   refine qqv (d:=d) c hr p3 p2 p1 fun σm e1 e2 e3=>?_
   have hnm:n∉pre++post:=fun q=>hn (by
    rw [p3];rcases List.mem_append.mp q with q|q
    ·exact List.mem_append_left _ q
    ·exact List.mem_append_right _ (.tail _ q))
   have hroom:(pre++post).length<most:=by
    have:=c.knm
    rw [p3]at this;simp at this ⊢
    lia
   refine qqw (d:=d) c e2 e3 hn hnm hroom hTb hbl e1 fun σ' O' i q h1 h2 h3=>?_
   have e:qd4 g most n i q= {g with kn:=(pre++post)++ [n],ids:=fup g.ids n i,bds:=fup g.bds n q,hold:=fup g.hold n 1,dat:=fup g.dat n (g.lat n),rd:=g.rd+1}:=by
    unfold qd4 qeo;simp only [if_neg hn,if_neg hr,p4]
   refine kk σ' O' i q h1 (by rw [e];exact h2) h3 (by rw [e];simp)
theorem qeb (g:G) (most n i q:Nat):(qd4 g most n i q).ids n=i:=qat ..
theorem qd3 (g:G) (most n i q:Nat):(qd4 g most n i q).hold n=1:=qat ..
theorem qkk (g:G) (most n i q:Nat):(qd4 g most n i q).dat n=if n∈g.kn then g.dat n else g.lat n:=qat ..
theorem CR.put (c:CR σ O b most bl sz T g) {n p:Nat} {bs:List UInt8} (hn:n∈g.kn) (hp:p+bs.length=sz) {GG:Prop} (kk: ∀σ',qag Pm (d+2) (.m .buffer "put") [.ref (.inst .buffer (g.ids n)),.int p,.bytes bs] σ=some (.none,σ')→CR σ' O b most bl sz T (qir g n ((g.dat n).take p++bs))→Go O O σ σ'→GG):GG:=by
 have hl:=(c.bufo n hn).2.2.1
 refine kk _ (qv2 (c.buf n hn).1 (c.buf n hn).2 (by have:=c.szl;(with_reducible exact qko ‹_› ‹_› (by decide))) (hp.trans hl.symm)) (c.setDat hn _ (by rw [List.length_append,List.length_take,Nat.min_eq_left (by rw [hl,←hp];exact Nat.le_add_right _ _),hp])) (Go.set (l:= .barr (g.bds n)) (c.bufo n hn).2.1)
theorem CR.fill (c:CR σ O b most bl sz T g) {n:Nat} {bs:List UInt8} (hn:n∈g.kn) (hp:bs.length=sz) {GG:Prop} (kk: ∀σ',qag Pm (d+1) (.m .buffer "fill") [.ref (.inst .buffer (g.ids n)),.bytes bs] σ=some (.none,σ')→CR σ' O b most bl sz T (qir g n bs)→Go O O σ σ'→GG):GG:=by
 have hl:=(c.bufo n hn).2.2.1
 refine kk _ (qsp (c.buf n hn).1 (c.buf n hn).2 (by have:=c.szl;(with_reducible exact qko ‹_› ‹_› (by decide))) (hp.trans hl.symm)) (c.setDat hn _ hp) (Go.set (l:= .barr (g.bds n)) (c.bufo n hn).2.1)
theorem CR.octets (c:CR σ O b most bl sz T g) {n:Nat} (hn:n∈g.kn):qag Pm (d+1) (.m .buffer "octets") [.ref (.inst .buffer (g.ids n))] σ=some (.bytes (g.dat n),σ):=
 qje (c.buf n hn).1 (c.buf n hn).2 (by have:=(c.bufo n hn).2.2.1;have:=c.szl;(with_reducible exact qko ‹_› ‹_› (by decide)))
theorem CR.letGo (c:CR σ O b most bl sz T g) {n:Nat} (hn:n∈g.kn) (hk:g.hold n=1):
  ∃σ',qag Pm (d+2) (.m .cache "release") [.ref (.inst .cache (b+9)),.ref (.inst .buffer (g.ids n))] σ=some (.none,σ')∧CR σ' O b most bl sz T (ql0 g n)∧Go O O σ σ':=qlz c hn hk
theorem CR.write (c:CR σ O b most bl sz T g) {n k:Nat} (hn:n∈g.kn) (hk:g.hold n=k+1) (hTb:T≤1000):
  ∃σ',qag Pm (d+3) (.m .cache "write") [.ref (.inst .cache (b+9)),.ref (.inst .buffer (g.ids n))] σ=some (.none,σ')∧CR σ' O b most bl sz (T+1) (qco g n)∧Go O O σ σ':=qoy c hn hk hTb
theorem qq0 (c:CR σ O b most bl sz T g) {n:Nat} (hbl:n<bl) (h0:n∈g.kn→g.hold n=0) (hsp:n∈g.kn∨g.kn.length<most∨ ∃m∈g.kn,g.hold m=0) (hTb:T≤1000) {GG:Prop} (kk: ∀σ' O' i q,qag Pm (d+4) (.m .cache "peek") [.ref (.inst .cache (b+9)),.int n] σ=some (.bytes (if n∈g.kn then g.dat n else g.lat n),σ')→CR σ' O' b most bl sz (T+1) (ql0 (qd4 g most n i q) n)→Go O O' σ σ'→GG):GG:=by
 refine qg9 (d:=d) c hbl h0 hsp hTb fun σ1 O' i q h1 c1 g1 hn1=>?_
 have h2:=c1.octets (d:=d+2) hn1
 refine qao (c1.letGo (d:=d+1) hn1 (qd3 g most n i q)) fun σ3 h3 c3 g3=>?_
 rw [qeb]at h2 h3;rw [qkk]at h2;have hb:=(c1.buf n hn1).1
 rw [qeb]at hb;refine kk σ3 O' i q ?_ c3 (g1.trans g3)
 rw [qf2];simp(decide:=true) [-String.reduceEq,-String.reduceNe,-BEq.rfl,l0,qc2,c.cache,qbl,h1,hb,qe0,h2,c1.cache,h3]
theorem qq1 (c:CR σ O b most bl sz T g) {n:Nat} (hn:n∈g.kn) (h1:g.hold n=1) {GG:Prop} (kk: ∀σ',qag Pm (d+4) (.m .cache "peek") [.ref (.inst .cache (b+9)),.int n] σ=some (.bytes (g.dat n),σ')→CR σ' O b most bl sz T {g with hits:=g.hits+1}→Go O O σ σ'→GG):GG:=by
 refine qmy (d:=d) c hn fun σ1 r1 c1 g1=>?_
 rw [h1]at c1;have r2:=c1.octets (d:=d+2) (n:=n) hn
 refine qgy (d:=d+1) c1 (n:=n) (k:=0) hn (qat ..) fun σ3 r3 c3 g3=>?_
 have hb:=(c1.buf n hn).1
 have e:fup (fup g.hold n (1+1)) n (0+1)=g.hold:=by rw [qqz,show(0+1:Nat)=g.hold n from h1.symm,qkj]
 simp only [e]at c3;refine kk σ3 ?_ c3 (g1.trans g3)
 simp only at r2 r3 hb;rw [qf2];simp(decide:=true) [-String.reduceEq,-String.reduceNe,-BEq.rfl,l0,qc2,c.cache,qbl,r1,hb,qe0,r2,c1.cache,r3]
theorem qq2 (c:CR σ O b most bl sz T g) {n:Nat} {bs:List UInt8} (hbl:n<bl) (hbs:bs.length=sz) (h0:n∈g.kn→g.hold n=0) (hsp:n∈g.kn∨g.kn.length<most∨ ∃m∈g.kn,g.hold m=0) (hTb:T≤900) {GG:Prop} (kk: ∀σ' O' i q,qag Pm (d+4) (.m .cache "poke") [.ref (.inst .cache (b+9)),.int n,.bytes bs] σ=some (.none,σ')→CR σ' O' b most bl sz (T+2) (ql0 (qco (qir (qd4 g most n i q) n bs) n) n)→Go O O' σ σ'→GG):GG:=by
 refine qaj c.disk fun dw hdk=>?_
 refine qg9 (d:=d) c hbl h0 hsp (by(with_reducible exact Nat.le_trans ‹_› (by decide))) fun σ1 O' i q r1 c1 g1 hn1=>?_
 refine c1.fill (d:=d+2) hn1 hbs fun σ2 r2 c2 g2=>?_
 refine qao (c2.write (d:=d) (n:=n) (k:=0) hn1 (qd3 g most n i q) (by(with_reducible exact oq10 ‹_› (by decide)))) fun σ3 r3 c3 g3=>?_
 refine qao (c3.letGo (d:=d+1) (n:=n) hn1 (qd3 g most n i q)) fun σ4 r4 c4 g4=>?_
 have hb:=(c1.buf n hn1).1
 rw [qeb]at r2 hb;rw [show(qir (qd4 g most n i q) n bs).ids n=i from qeb g most n i q]at r3;rw [show(qco (qir (qd4 g most n i q) n bs) n).ids n=i from qeb g most n i q]at r4;have hbl':(n:Int)<bl:=by(with_reducible exact Int.ofNat_lt.mpr ‹_›)
 have h64:bs.length≤64:=by have:=c.szl;(with_reducible exact qko ‹_› ‹_› (by decide))
 have h64':sz≤64:=c.szl
 refine kk σ4 O' i q ?_ c4 (((g1.trans g2).trans g3).trans g4)
 rw [qf3];simp(decide:=true) [-String.reduceEq,-String.reduceNe,-BEq.rfl,l0,qc3,qbg,qb4,c.cache,qbl,hdk,qbo,hbl',hbs,h64,h64',r1,hb,qe0,r2,c2.cache,r3,c3.cache,r4]
theorem qq3 (c:CR σ O b most bl sz T g) {n:Nat} {bs:List UInt8} (hn:n∈g.kn) (hbs:bs.length=sz) (h1:g.hold n=1) (hTb:T≤900) {GG:Prop} (kk: ∀σ',qag Pm (d+4) (.m .cache "poke") [.ref (.inst .cache (b+9)),.int n,.bytes bs] σ=some (.none,σ')→CR σ' O b most bl sz (T+1) (qco (qir {g with hits:=g.hits+1} n bs) n)→Go O O σ σ'→GG):GG:=by
 refine qaj c.disk fun dw hdk=>?_
 refine qmy (d:=d) c hn fun σ1 r1 c1 g1=>?_
 rw [h1]at c1;refine c1.fill (d:=d+2) (n:=n) hn hbs fun σ2 r2 c2 g2=>?_
 refine qao (c2.write (d:=d) (n:=n) (k:=1) hn (qat ..) (by(with_reducible exact Nat.le_trans ‹_› (by decide)))) fun σ3 r3 c3 g3=>?_
 refine qgy (d:=d+1) c3 (n:=n) (k:=0) hn (qat ..) fun σ4 r4 c4 g4=>?_
 have hb:=(c1.buf n hn).1
 have e:fup (fup g.hold n (1+1)) n (0+1)=g.hold:=by rw [qqz,show(0+1:Nat)=g.hold n from h1.symm,qkj]
 have hbl':(n:Int)<bl:=by have:=(c.bufo n hn).2.2.2;(with_reducible exact Int.ofNat_lt.mpr ‹_›)
 have h64:bs.length≤64:=by have:=c.szl;(with_reducible exact qko ‹_› ‹_› (by decide))
 have h64':sz≤64:=c.szl
 simp only [qir,qco,e]at c4 r2 r3 r4 hb ⊢;refine kk σ4 ?_ c4 (((g1.trans g2).trans g3).trans g4)
 rw [qf3];simp(decide:=true) [-String.reduceEq,-String.reduceNe,-BEq.rfl,l0,qc3,qbg,qb4,c.cache,qbl,hdk,qbo,hbl',hbs,h64,h64',r1,hb,qe0,r2,c2.cache,r3,c3.cache,r4]
end
end Mine.B
end
noncomputable section
namespace Mine.B
noncomputable def qdg:List MS:=match D_Cache_forget.body with
 | [.forL _ _ b]=>b
 |_=> []
section
variable {d:Nat} {O:Nat→Prop} {b most bl sz T:Nat}
theorem qmz {σ:St} {g:G} {x:Nat} {keep rest:List Nat} {l:Locs} (c:CR σ O b most bl sz T g) (hk:g.kn=keep++x::rest) (hx:g.hold x=0) (hl:l "self" =some (.ref (.inst .cache (b+9)))):
  ∃σ',qbk (qag Pm (d+1)) qdg (l.set "buffer" (.ref (.inst .buffer (g.ids x)))) σ=some (.next,l.set "buffer" (.ref (.inst .buffer (g.ids x))),σ')∧CR σ' O b most bl sz T {g with kn:=keep++rest}∧Go O O σ σ':=by
 refine qao c.by_ fun kvs hy hT hg=>?_
 have hm:x∈g.kn:=by rw [hk];simp
 have hin:=hg x
 rw [if_pos hm]at hin;have hbuf:=(c.buf x hm).1
 rw [hx]at hbuf;have hfree:=qex (d:=d) hbuf
 have hrem:=qg8 (f:=fun n=>V.ref (.inst .buffer (g.ids n))) (n:=x) (kn:=g.kn) (fun m hm' q=>c.inji m hm' x hm (by simpa using q)) hm
 have hnd:=c.nd
 rw [hk]at hnd;have hxk:x∉keep:=fun q=>(List.nodup_append.mp hnd).2.2 x q x (.head _) rfl
 have hxr:x∉rest:=(List.nodup_cons.mp (List.nodup_append.mp hnd).2.1).1
 have her:g.kn.erase x=keep++rest:=by rw [hk,List.erase_append_right _ hxk,List.erase_cons_head]
 have hnd':(keep++rest).Nodup:=List.Nodup.sublist (List.Sublist.append (List.Sublist.refl _) (List.sublist_cons_self ..)) hnd
 have hmn:x∉keep++rest:=fun q=>(List.mem_append.mp q).elim hxk hxr
 have hget: ∀n:Nat,qa8 n (qds x kvs)=if n∈keep++rest then some (.ref (.inst .buffer (g.ids n)))else none:=fun n=>by
  rw [qh4,hg];by_cases e:n=x
  ·subst e;rw [if_pos rfl,if_neg hmn]
  ·have: ¬(n:Int)=x:=by(with_reducible exact qo7 ‹_›)
   simp [this,hk,e]
 have hcells:(∀y:Nat,y∈g.kn→(σ.heap (.inst .buffer (g.ids y))).isSome=true)=True:=eq_true fun y hy=>by rw [(c.buf y hy).1];rfl
 rw [her]at hrem;refine⟨_,?_,c.setRow (keep++rest) (qds x kvs) hnd' (fun n hn=>?_) (by rw [hk];simp) (Nat.le_trans (qh3 ..) hT) hget,(Go.set (c.own _ (by simp [Loc.n]) (by simp [Loc.n]))).trans (Go.set (c.own _ (by simp [Loc.n]) (by simp [Loc.n])))⟩
 ·simp(decide:=true) [-String.reduceEq,-String.reduceNe,-BEq.rfl,l0,qdg,D_Cache_forget,hl,hfree,hbuf,qe0,c.cache,qbl,hy,hin,c.row,hcells]
  simp only [List.map_append]at hrem;rw [hrem];rfl
 ·rw [hk];rcases List.mem_append.mp hn with q|q
  ·exact List.mem_append_left _ q
  ·exact List.mem_append_right _ (.tail _ q)
theorem qm0 {i:Nat} {full:List V} (hi: ¬O i): ∀(rest keep:List Nat) (g:G) (σ:St) (l:Locs),CR σ O b most bl sz T g→g.kn=keep++rest→σ.heap (.list i)=some (.list full)→i<σ.next→l "self" =some (.ref (.inst .cache (b+9)))→
  ∀{GG:Prop},(∀l' σ',qch (fun s=>decide (qav (.ref (.list i)) s=some full)) (fun u l s=>qbk (qag Pm (d+1)) qdg (l.set "buffer" u) s) (rest.map fun n=> .ref (.inst .buffer (g.ids n))) l σ=some (.next,l',σ')→
   CR σ' O b most bl sz T {g with kn:=keep++rest.filter fun n=>g.hold n≠0}→Go O O σ σ'→GG)→GG:=by
 intro rest
 induction rest with
 |nil=>
  intro keep g σ l c hk hf hlt hl GG kk;refine kk l σ (qcn (by simp [hf])) ?_ (.refl ..)
  have e:({g with kn:=keep++([]:List Nat).filter fun n=>g.hold n≠0}:G)=g:=by
   cases g;simp only at hk;subst hk;simp
  rw [e];exact c
 |cons x rest ih=>
  intro keep g σ l c hk hf hlt hl GG kk;have hm:x∈g.kn:=by rw [hk];simp
  by_cases hx:g.hold x=0
  ·refine qao (qmz (d:=d) c hk hx hl) fun σ1 h1 c1 g1=>?_
   refine ih keep {g with kn:=keep++rest} σ1 (l.set "buffer" (.ref (.inst .buffer (g.ids x)))) c1 rfl ((g1.eq (.list i) hlt hi).trans hf) (Nat.lt_of_lt_of_le hlt g1.le) (by simp [Locs.set,hl]) fun l' σ' h2 c2 g2=>?_
   refine kk l' σ' (by rw [List.map_cons,qbn (by simp [hf]),h1];exact h2) ?_ (g1.trans g2)
   rw [List.filter_cons_of_neg (by simpa using hx)];exact c2
  ·have hbuf:=(c.buf x hm).1
   have hfree:=qex (d:=d) hbuf
   have e:qbk (qag Pm (d+1)) qdg (l.set "buffer" (.ref (.inst .buffer (g.ids x)))) σ=some (.next,l.set "buffer" (.ref (.inst .buffer (g.ids x))),σ):=by
    clear ih kk;simp(decide:=true) [-String.reduceEq,-String.reduceNe,-BEq.rfl,l0,qdg,D_Cache_forget,hl,hfree,hbuf,qe0,hx]
   refine ih (keep++ [x]) g σ (l.set "buffer" (.ref (.inst .buffer (g.ids x)))) c (by rw [hk];simp) hf hlt (by simp [Locs.set,hl]) fun l' σ' h2 c2 g2=>?_
   refine kk l' σ' (by rw [List.map_cons,qbn (by simp [hf]),e];exact h2) ?_ g2
   rw [List.filter_cons_of_pos (by simpa using hx)];simpa using c2
theorem qoz {σ:St} {g:G} (c:CR σ O b most bl sz T g) {GG:Prop} (kk: ∀σ',qag Pm (d+2) (.m .cache "forget") [.ref (.inst .cache (b+9))] σ=some (.none,σ')→(CR σ' O b most bl sz T {g with kn:=g.kn.filter fun n=>g.hold n≠0})→Go O O σ σ'→GG):GG:=by
 have hi: ¬O σ.next:=fun q=>Nat.lt_irrefl _ (c.lt _ q)
 have c1:CR (σ.new .list (.list (g.kn.map fun n=> .ref (.inst .buffer (g.ids n))))) O b most bl sz T g:=c.newMore rfl
 refine qm0 (d:=d) (full:=g.kn.map fun n=> .ref (.inst .buffer (g.ids n))) hi g.kn [] g _ (l0.set "self" (.ref (.inst .cache (b+9)))) c1 rfl (by simp [qam]) (Nat.lt_succ_self _) (by simp [Locs.set]) fun l' σ' h c2 g2=>?_
 refine kk σ' ?_ (by simpa using c2) ((Go.newMore rfl).trans g2)
 rw [qh1];show qez (qbk (qag Pm (d+1)) [.forL "buffer" (.bi .list [.attr (.var "self") "row"]) qdg] (l0.set "self" (.ref (.inst .cache (b+9)))) σ)=_
 rw [qap (by
  rw [qgr (v:= .ref (.list σ.next)) (σ₁:=σ.new .list (.list (g.kn.map fun n=> .ref (.inst .buffer (g.ids n))))) (vs:=g.kn.map fun n=> .ref (.inst .buffer (g.ids n))) (by simp(decide:=true) [-String.reduceEq,-String.reduceNe,-BEq.rfl,c.cache,qbl,c.row]) (by simp [qam])];exact h)]
 rfl
end
end Mine.B
end
noncomputable section
namespace Mine.B
structure BR (σ:St) (b most bl T:Nat) (H:List Nat) (ids:Nat→Nat) (sh:Nat→Option (List UInt8)) (kp:Nat→List UInt8) (c0 c1 c2:Nat):Prop where
 side:σ.heap (.dict (b+17))=some (.dictS [("cache",.ref (.inst .cache (b+9))),("most",.int most),("hands",.ref (.dict (b+14))),("shown",.ref (.dict (b+15))),("kept",.ref (.list (b+12))),("counts",.ref (.list (b+16)))])
 hands: ∃kvs,σ.heap (.dict (b+14))=some (.dictI kvs)∧kvs.length≤T∧ ∀n:Nat,qa8 n kvs=if n∈H then some (.ref (.inst .buffer (ids n)))else none
 shown: ∃kvs,σ.heap (.dict (b+15))=some (.dictI kvs)∧kvs.length≤T∧ ∀n:Nat,qa8 n kvs=(sh n).map V.bytes
 kept:σ.heap (.list (b+12))=some (.list ((List.range bl).map fun n=> .bytes (kp n)))
 counts:σ.heap (.list (b+16))=some (.list [.int c0,.int c1,.int c2])
section
variable {d:Nat} {σ σ':St} {O O':Nat→Prop} {b most bl sz T:Nat} {g:G} {H:List Nat} {ids:Nat→Nat} {sh:Nat→Option (List UInt8)} {kp:Nat→List UInt8} {c0 c1 c2:Nat}
theorem BR.frame (B:BR σ b most bl T H ids sh kp c0 c1 c2) (h: ∀l:Loc,b+12≤l.n→l.n<b+18→σ'.heap l=σ.heap l):BR σ' b most bl T H ids sh kp c0 c1 c2 where
 side:=(h _ (by simp [Loc.n]) (by simp [Loc.n])).trans B.side
 hands:=B.hands.imp fun _ q=>⟨(h _ (by simp [Loc.n]) (by simp [Loc.n])).trans q.1,q.2⟩
 shown:=B.shown.imp fun _ q=>⟨(h _ (by simp [Loc.n]) (by simp [Loc.n])).trans q.1,q.2⟩
 kept:=(h _ (by simp [Loc.n]) (by simp [Loc.n])).trans B.kept
 counts:=(h _ (by simp [Loc.n]) (by simp [Loc.n])).trans B.counts
theorem BR.mono {T':Nat} (B:BR σ b most bl T H ids sh kp c0 c1 c2) (h:T≤T'):BR σ b most bl T' H ids sh kp c0 c1 c2:=
 {B with hands:=B.hands.imp fun _ q=>⟨q.1,Nat.le_trans q.2.1 h,q.2.2⟩,shown:=B.shown.imp fun _ q=>⟨q.1,Nat.le_trans q.2.1 h,q.2.2⟩}
theorem BR.go (B:BR σ b most bl T H ids sh kp c0 c1 c2) (g:Go O O' σ σ') (nb: ∀k,b+12≤k→k<b+18→ ¬O k) (hlt:b+18≤σ.next):BR σ' b most bl T H ids sh kp c0 c1 c2:=
 B.frame fun l h1 h2=>g.eq l (Nat.lt_of_lt_of_le h2 hlt) (nb _ h1 h2)
theorem BR.newMore {mk:Nat→Loc} {o:MObj} (B:BR σ b most bl T H ids sh kp c0 c1 c2) (hlt:b+18≤σ.next) (h:(mk σ.next).n=σ.next):BR (σ.new mk o) b most bl T H ids sh kp c0 c1 c2:=
 B.frame fun l h1 h2=>by
  rw [qam,if_neg]
  rintro rfl
  rw [h]at h2;exact absurd h2 (Nat.not_lt.mpr hlt)
noncomputable def qbh (way n p:Nat) (oct:List UInt8):MObj:= .tup [.int way,.int n,.int p,.bytes oct]
noncomputable def sd (b:Nat):V:= .ref (.dict (b+17))
noncomputable def two (b:Nat):MObj:= .tup [.ref (.inst .cache (b+9)),.ref (.dict (b+14))]
variable {t n p:Nat} {oct:List UInt8} {v:V}
noncomputable def lDn (b t w n p:Nat) (oct:List UInt8):Locs:=(((((((l0.set "deed" (.ref (.tup t))).set "side" (sd b)).set "way" (.int w)).set "number" (.int n)).set "place" (.int p)).set "octets" (.bytes oct)).set "cache" (.ref (.inst .cache (b+9)))).set "hands" (.ref (.dict (b+14)))
theorem qc1 {C:Calls} {w:Nat} {rest:List MS} (B:BR σ b most bl T H ids sh kp c0 c1 c2) (ht:σ.heap (.tup t)=some (qbh w n p oct)):
  qbk C (.asgUnp ["way","number","place","octets"] (.var "deed"):: .asgTup ["cache","hands"] [.item (.var "side") (.str "cache"),.item (.var "side") (.str "hands")]::rest) ((l0.set "deed" (.ref (.tup t))).set "side" (sd b)) σ=qbk C rest (lDn b t w n p oct) (σ.new .tup (two b)):=by
 simp(decide:=true) [-String.reduceEq,-String.reduceNe,-BEq.rfl,l0,sd,ht,qbh,B.side,lDn,two]
theorem qau {C:Calls} {l:Locs} {w k:Int} {th rest:List MS} (hl:l "way" =some (.int w)) (h: ¬w=k):qbk C (.ifs (.cmp .eq (.var "way") (.int k)) th []::rest) l σ=qbk C rest l σ:=by
 simp(decide:=true) [-String.reduceEq,-String.reduceNe,-BEq.rfl,hl,h]
theorem qf6 {C:Calls} {l:Locs} {w k:Int} {e:ME} {rest:List MS} (hl:l "way" =some (.int w)) (h:w=k) (he:evE C l e σ=some (v,σ')):qbk C (.ifs (.cmp .eq (.var "way") (.int k)) [.ret e] []::rest) l σ=some (.ret v,l,σ'):=by
 simp(decide:=true) [-String.reduceEq,-String.reduceNe,-BEq.rfl,hl,h,he]
theorem qax {w:Nat}:lDn b t w n p oct "way" =some (.int w):=rfl
theorem done0 (c:CR σ O b most bl sz T g) (B:BR σ b most bl T H ids sh kp c0 c1 c2) (ht:σ.heap (.tup t)=some (qbh 0 n p oct)) (hr:qag Pm (d+4) (.m .cache "peek") [.ref (.inst .cache (b+9)),.int n] (σ.new .tup (two b))=some (v,σ')):
  qag Pm (d+5) (.f "_law_done") [sd b,.ref (.tup t)] σ=some (v,σ'):=by
 simp only [two]at hr;have he:evE (qag Pm (d+4)) (lDn b t 0 n p oct) (.meth (.var "cache") "peek" [.var "number"]) (σ.new .tup (two b))=some (v,σ'):=by
  simp(decide:=true) [-String.reduceEq,-String.reduceNe,-BEq.rfl,l0,c.cache,qbl,hr,lDn,two]
 rw [qbr];show qez (qbk (qag Pm (d+4)) D__law_done.body ((l0.set "deed" (.ref (.tup t))).set "side" (sd b)) σ)=_
 unfold D__law_done;rw [qc1 B ht,qf6 (k:=0) qax rfl he];rfl
theorem done1 (c:CR σ O b most bl sz T g) (B:BR σ b most bl T H ids sh kp c0 c1 c2) (ht:σ.heap (.tup t)=some (qbh 1 n p oct)) (hr:qag Pm (d+4) (.m .cache "poke") [.ref (.inst .cache (b+9)),.int n,.bytes oct] (σ.new .tup (two b))=some (v,σ')):
  qag Pm (d+5) (.f "_law_done") [sd b,.ref (.tup t)] σ=some (v,σ'):=by
 simp only [two]at hr;have he:evE (qag Pm (d+4)) (lDn b t 1 n p oct) (.meth (.var "cache") "poke" [.var "number",.var "octets"]) (σ.new .tup (two b))=some (v,σ'):=by
  simp(decide:=true) [-String.reduceEq,-String.reduceNe,-BEq.rfl,l0,c.cache,qbl,hr,lDn,two]
 rw [qbr];show qez (qbk (qag Pm (d+4)) D__law_done.body ((l0.set "deed" (.ref (.tup t))).set "side" (sd b)) σ)=_
 unfold D__law_done;rw [qc1 B ht,qau qax (by decide),qf6 (k:=1) qax rfl he];rfl
theorem done6 (c:CR σ O b most bl sz T g) (B:BR σ b most bl T H ids sh kp c0 c1 c2) (ht:σ.heap (.tup t)=some (qbh 6 n p oct)) (hr:qag Pm (d+4) (.m .disk "write") [.ref (.inst .disk (b+1)),.int n,.bytes oct] (σ.new .tup (two b))=some (v,σ')):
  qag Pm (d+5) (.f "_law_done") [sd b,.ref (.tup t)] σ=some (v,σ'):=by
 refine qaj c.disk fun dw hdk=>?_
 simp only [two]at hr;have he:evE (qag Pm (d+4)) (lDn b t 6 n p oct) (.meth (.attr (.var "cache") "disk") "write" [.var "number",.var "octets"]) (σ.new .tup (two b))=some (v,σ'):=by
  simp(decide:=true) [-String.reduceEq,-String.reduceNe,-BEq.rfl,l0,c.cache,qbl,hdk,qbo,hr,lDn,two]
 rw [qbr];show qez (qbk (qag Pm (d+4)) D__law_done.body ((l0.set "deed" (.ref (.tup t))).set "side" (sd b)) σ)=_
 unfold D__law_done;rw [qc1 B ht,qau qax (by decide),qau qax (by decide),qau qax (by decide),qf6 (k:=6) qax rfl he];rfl
theorem done7 (c:CR σ O b most bl sz T g) (B:BR σ b most bl T H ids sh kp c0 c1 c2) (ht:σ.heap (.tup t)=some (qbh 7 n p oct)) (hr:qag Pm (d+4) (.m .cache "forget") [.ref (.inst .cache (b+9))] (σ.new .tup (two b))=some (v,σ')):
  qag Pm (d+5) (.f "_law_done") [sd b,.ref (.tup t)] σ=some (v,σ'):=by
 simp only [two]at hr;have he:evE (qag Pm (d+4)) (lDn b t 7 n p oct) (.meth (.var "cache") "forget" []) (σ.new .tup (two b))=some (v,σ'):=by
  simp(decide:=true) [-String.reduceEq,-String.reduceNe,-BEq.rfl,l0,c.cache,qbl,hr,lDn,two]
 rw [qbr];show qez (qbk (qag Pm (d+4)) D__law_done.body ((l0.set "deed" (.ref (.tup t))).set "side" (sd b)) σ)=_
 unfold D__law_done;rw [qc1 B ht,qau qax (by decide),qau qax (by decide),qau qax (by decide),qau qax (by decide),qf6 (k:=7) qax rfl he];rfl
theorem done3 (c:CR σ O b most bl sz T g) (B:BR σ b most bl T H ids sh kp c0 c1 c2) (ht:σ.heap (.tup t)=some (qbh 3 n p oct)) (hn:n∈H) {kvs:List (Int×V)} (hh:σ.heap (.dict (b+14))=some (.dictI kvs)) (hg: ∀n:Nat,qa8 n kvs=if n∈H then some (.ref (.inst .buffer (ids n)))else none)
  (hr:qag Pm (d+4) (.m .cache "release") [.ref (.inst .cache (b+9)),.ref (.inst .buffer (ids n))] ((σ.new .tup (two b)).set (.dict (b+14)) (.dictI (qds n kvs)))=some (v,σ')):
  qag Pm (d+5) (.f "_law_done") [sd b,.ref (.tup t)] σ=some (v,σ'):=by
 have hin:=hg n
 rw [if_pos hn]at hin;simp only [two]at hr;have he:evE (qag Pm (d+4)) (lDn b t 3 n p oct) (.meth (.var "cache") "release" [.meth (.var "hands") "pop" [.var "number"]]) (σ.new .tup (two b))=some (v,σ'):=by
  simp(decide:=true) [-String.reduceEq,-String.reduceNe,-BEq.rfl,l0,c.cache,qbl,hh,hin,hr,lDn,two]
 rw [qbr];show qez (qbk (qag Pm (d+4)) D__law_done.body ((l0.set "deed" (.ref (.tup t))).set "side" (sd b)) σ)=_
 unfold D__law_done;rw [qc1 B ht,qau qax (by decide),qau qax (by decide),qf6 (k:=3) qax rfl he];rfl
theorem done2 {σ2:St} {g2:G} {O2:Nat→Prop} {T2:Nat} (c:CR σ O b most bl sz T g) (B:BR σ b most bl T H ids sh kp c0 c1 c2) (ht:σ.heap (.tup t)=some (qbh 2 n p oct)) (hn:n∉H)
  (hr:qag Pm (d+4) (.m .cache "get") [.ref (.inst .cache (b+9)),.int n] (σ.new .tup (two b))=some (.ref (.inst .buffer (g2.ids n)),σ2)) (c2':CR σ2 O2 b most bl sz T2 g2) (hn2:n∈g2.kn) {kvs:List (Int×V)} (hh:σ.heap (.dict (b+14))=some (.dictI kvs)) (hh2:σ2.heap (.dict (b+14))=some (.dictI kvs))
  (hg: ∀n:Nat,qa8 n kvs=if n∈H then some (.ref (.inst .buffer (ids n)))else none) (hT:kvs.length≤100000):
  qag Pm (d+5) (.f "_law_done") [sd b,.ref (.tup t)] σ=some (.bytes (g2.dat n),σ2.set (.dict (b+14)) (.dictI (qbd n (.ref (.inst .buffer (g2.ids n))) kvs))):=by
 have hin:=hg n
 rw [if_neg hn]at hin;have ho:=c2'.octets (d:=d+3) hn2
 have hb:=(c2'.buf n hn2).1
 simp only [two]at hr;rw [qbr];show qez (qbk (qag Pm (d+4)) D__law_done.body ((l0.set "deed" (.ref (.tup t))).set "side" (sd b)) σ)=_
 unfold D__law_done;rw [qc1 B ht,qau qax (by decide),qau qax (by decide),qau qax (by decide),qau qax (by decide),qau qax (by decide)];simp(decide:=true) [-String.reduceEq,-String.reduceNe,-BEq.rfl,l0,c.cache,qbl,hh,hin,hr,ho,hb,qe0,hh2,hT,lDn,two]
theorem done4f {σ2 σ3:St} {g2:G} {O2:Nat→Prop} {T2 T3:Nat} {g3:G} (c:CR σ O b most bl sz T g) (B:BR σ b most bl T H ids sh kp c0 c1 c2) (ht:σ.heap (.tup t)=some (qbh 4 n p oct)) (hn:n∉H) (ho64:oct.length≤64)
  (hr:qag Pm (d+4) (.m .cache "get") [.ref (.inst .cache (b+9)),.int n] (σ.new .tup (two b))=some (.ref (.inst .buffer (g2.ids n)),σ2)) (c2':CR σ2 O2 b most bl sz T2 g2) (hn2:n∈g2.kn) {kvs:List (Int×V)} (hh:σ.heap (.dict (b+14))=some (.dictI kvs))
  (hg: ∀n:Nat,qa8 n kvs=if n∈H then some (.ref (.inst .buffer (ids n)))else none) (hp:qag Pm (d+4) (.m .buffer "put") [.ref (.inst .buffer (g2.ids n)),.int p,.bytes (oct.drop p)] σ2=some (.none,σ3)) (c3:CR σ3 O2 b most bl sz T3 g3) (hh3:σ3.heap (.dict (b+14))=some (.dictI kvs))
  (hl:qag Pm (d+4) (.m .cache "release") [.ref (.inst .cache (b+9)),.ref (.inst .buffer (g2.ids n))] σ3=some (.none,σ')):
  qag Pm (d+5) (.f "_law_done") [sd b,.ref (.tup t)] σ=some (.bytes (g2.dat n),σ'):=by
 have hin:=hg n
 rw [if_neg hn]at hin;have ho:=c2'.octets (d:=d+3) hn2
 have hb:=(c2'.buf n hn2).1
 have ho1:oct.length≤1000:=by(with_reducible exact Nat.le_trans ‹_› (by decide))
 simp only [two]at hr;rw [qbr];show qez (qbk (qag Pm (d+4)) D__law_done.body ((l0.set "deed" (.ref (.tup t))).set "side" (sd b)) σ)=_
 unfold D__law_done;rw [qc1 B ht,qau qax (by decide),qau qax (by decide),qau qax (by decide),qau qax (by decide),qau qax (by decide)];simp(decide:=true) [-String.reduceEq,-String.reduceNe,-BEq.rfl,l0,c.cache,qbl,hh,hin,hr,ho,hb,qe0,ho1,hp,hh3,c3.cache,hl,lDn,two]
theorem done5f {σ2 σ3 σ4:St} {g2:G} {O2:Nat→Prop} {T2 T3 T4:Nat} {g3 g4:G} (c:CR σ O b most bl sz T g) (B:BR σ b most bl T H ids sh kp c0 c1 c2) (ht:σ.heap (.tup t)=some (qbh 5 n p oct)) (hn:n∉H) (ho64:oct.length≤64)
  (hr:qag Pm (d+4) (.m .cache "get") [.ref (.inst .cache (b+9)),.int n] (σ.new .tup (two b))=some (.ref (.inst .buffer (g2.ids n)),σ2)) (c2':CR σ2 O2 b most bl sz T2 g2) (hn2:n∈g2.kn) {kvs:List (Int×V)} (hh:σ.heap (.dict (b+14))=some (.dictI kvs))
  (hg: ∀n:Nat,qa8 n kvs=if n∈H then some (.ref (.inst .buffer (ids n)))else none) (hp:qag Pm (d+4) (.m .buffer "put") [.ref (.inst .buffer (g2.ids n)),.int p,.bytes (oct.drop p)] σ2=some (.none,σ3)) (c3:CR σ3 O2 b most bl sz T3 g3)
  (hw:qag Pm (d+4) (.m .cache "write") [.ref (.inst .cache (b+9)),.ref (.inst .buffer (g2.ids n))] σ3=some (.none,σ4)) (c4:CR σ4 O2 b most bl sz T4 g4) (hh4:σ4.heap (.dict (b+14))=some (.dictI kvs))
  (hl:qag Pm (d+4) (.m .cache "release") [.ref (.inst .cache (b+9)),.ref (.inst .buffer (g2.ids n))] σ4=some (.none,σ')):
  qag Pm (d+5) (.f "_law_done") [sd b,.ref (.tup t)] σ=some (.bytes (g2.dat n),σ'):=by
 have hin:=hg n
 rw [if_neg hn]at hin;have ho:=c2'.octets (d:=d+3) hn2
 have hb:=(c2'.buf n hn2).1
 have ho1:oct.length≤1000:=by(with_reducible exact Nat.le_trans ‹_› (by decide))
 simp only [two]at hr;rw [qbr];show qez (qbk (qag Pm (d+4)) D__law_done.body ((l0.set "deed" (.ref (.tup t))).set "side" (sd b)) σ)=_
 unfold D__law_done;rw [qc1 B ht,qau qax (by decide),qau qax (by decide),qau qax (by decide),qau qax (by decide),qau qax (by decide)];simp(decide:=true) [-String.reduceEq,-String.reduceNe,-BEq.rfl,l0,c.cache,qbl,hh,hin,hr,ho,hb,qe0,ho1,hp,c3.cache,hw,hh4,c4.cache,hl,lDn,two]
theorem done4h {σ3:St} (c:CR σ O b most bl sz T g) (B:BR σ b most bl T H g.ids sh kp c0 c1 c2) (ht:σ.heap (.tup t)=some (qbh 4 n p oct)) (hn:n∈H) (ho64:oct.length≤64) (hnk:n∈g.kn) (hlt:b+18≤σ.next)
  (hp:qag Pm (d+4) (.m .buffer "put") [.ref (.inst .buffer (g.ids n)),.int p,.bytes (oct.drop p)] (σ.new .tup (two b))=some (.none,σ3)) {kvs:List (Int×V)} (hh:σ.heap (.dict (b+14))=some (.dictI kvs)) (hh3:σ3.heap (.dict (b+14))=some (.dictI kvs))
  (hg: ∀n:Nat,qa8 n kvs=if n∈H then some (.ref (.inst .buffer (g.ids n)))else none):
  qag Pm (d+5) (.f "_law_done") [sd b,.ref (.tup t)] σ=some (.bytes (g.dat n),σ3):=by
 have hin:=hg n
 rw [if_pos hn]at hin;have ct:CR (σ.new .tup (two b)) O b most bl sz T g:=c.newMore rfl
 have ho:=ct.octets (d:=d+3) hnk
 have hb:=(c.buf n hnk).1
 have ho1:oct.length≤1000:=by(with_reducible exact Nat.le_trans ‹_› (by decide))
 simp only [two]at hp ho;rw [qbr];show qez (qbk (qag Pm (d+4)) D__law_done.body ((l0.set "deed" (.ref (.tup t))).set "side" (sd b)) σ)=_
 unfold D__law_done;rw [qc1 B ht,qau qax (by decide),qau qax (by decide),qau qax (by decide),qau qax (by decide),qau qax (by decide)];simp(decide:=true) [-String.reduceEq,-String.reduceNe,-BEq.rfl,l0,c.cache,qbl,hh,hin,ho,hb,qe0,ho1,hp,hh3,lDn,two]
theorem done5h {σ3:St} {T3:Nat} {g3:G} {O3:Nat→Prop} (c:CR σ O b most bl sz T g) (B:BR σ b most bl T H g.ids sh kp c0 c1 c2) (ht:σ.heap (.tup t)=some (qbh 5 n p oct)) (hn:n∈H) (ho64:oct.length≤64) (hnk:n∈g.kn) (hlt:b+18≤σ.next)
  (hp:qag Pm (d+4) (.m .buffer "put") [.ref (.inst .buffer (g.ids n)),.int p,.bytes (oct.drop p)] (σ.new .tup (two b))=some (.none,σ3)) (c3:CR σ3 O3 b most bl sz T3 g3)
  (hw:qag Pm (d+4) (.m .cache "write") [.ref (.inst .cache (b+9)),.ref (.inst .buffer (g.ids n))] σ3=some (.none,σ')) {kvs:List (Int×V)} (hh:σ.heap (.dict (b+14))=some (.dictI kvs)) (hh4:σ'.heap (.dict (b+14))=some (.dictI kvs))
  (hg: ∀n:Nat,qa8 n kvs=if n∈H then some (.ref (.inst .buffer (g.ids n)))else none):
  qag Pm (d+5) (.f "_law_done") [sd b,.ref (.tup t)] σ=some (.bytes (g.dat n),σ'):=by
 have hin:=hg n
 rw [if_pos hn]at hin;have ct:CR (σ.new .tup (two b)) O b most bl sz T g:=c.newMore rfl
 have ho:=ct.octets (d:=d+3) hnk
 have hb:=(c.buf n hnk).1
 have ho1:oct.length≤1000:=by(with_reducible exact Nat.le_trans ‹_› (by decide))
 simp only [two]at hp ho;rw [qbr];show qez (qbk (qag Pm (d+4)) D__law_done.body ((l0.set "deed" (.ref (.tup t))).set "side" (sd b)) σ)=_
 unfold D__law_done;rw [qc1 B ht,qau qax (by decide),qau qax (by decide),qau qax (by decide),qau qax (by decide),qau qax (by decide)];simp(decide:=true) [-String.reduceEq,-String.reduceNe,-BEq.rfl,l0,c.cache,qbl,hh,hin,ho,hb,qe0,ho1,hp,c3.cache,hw,hh4,lDn,two]
end
end Mine.B
end
noncomputable section
namespace Mine.B
theorem qa7: ∀H:List Nat,ints? (H.map fun n:Nat=>V.int n)=some (H.map fun n:Nat=>(n:Int))
 | []=>rfl
 |n::r=>by simp only [List.map_cons,ints?,qa7 r];rfl
theorem qfi {n:Nat} {H:List Nat}:(n:Int)∈H.map (fun n:Nat=>(n:Int)) ↔ n∈H:=by
 rw [List.mem_map];exact⟨fun⟨m,hm,e⟩=>oq11 e ▸ hm,fun h=>⟨n,h,rfl⟩⟩
noncomputable def qdf (b:Nat):Nat→Prop:=fun k=>b+12≤k∧k<b+18
noncomputable def t3 (b:Nat):MObj:= .tup [.ref (.dict (b+15)),.ref (.list (b+12)),.ref (.list (b+16))]
noncomputable def t45:MObj:= .tup [.int 4,.int 5]
noncomputable def t15:MObj:= .tup [.int 1,.int 5]
noncomputable def qbe:MObj:= .tup [.int 0,.int 2,.int 4,.int 5]
noncomputable def qm1 (bl:Nat) (kp:Nat→List UInt8):MObj:= .list ((List.range bl).map fun n=>V.bytes (kp n))
theorem qcp {bl n:Nat} (h:n<bl) (kp:Nat→List UInt8):((List.range bl).map fun n=>V.bytes (kp n))[n]? =some (.bytes (kp n)):=by
 rw [List.getElem?_map,List.getElem?_range h];rfl
theorem qss {bl n:Nat} (kp:Nat→List UInt8) (x:List UInt8):((List.range bl).map fun n=>V.bytes (kp n)).set n (.bytes x)=(List.range bl).map fun m=>V.bytes (fup kp n x m):=by
 apply List.ext_getElem?
 intro i;rw [List.getElem?_set];simp only [List.getElem?_map,List.length_map,List.length_range];by_cases h:n=i
 ·subst h;by_cases h2:n<bl
  ·simp [h2,List.getElem?_range,qat]
  ·simp [h2]
 ·simp only [h,if_false];by_cases h2:i<bl
  ·have:i≠n:=fun q=>h q.symm
   simp [List.getElem?_range,h2,qak _ _ this]
  ·simp [h2]
section
variable {d:Nat} {σ:St} {b most bl T:Nat} {H:List Nat} {ids:Nat→Nat} {sh:Nat→Option (List UInt8)} {kp:Nat→List UInt8} {c0 c1 c2:Nat}
theorem BR.setCounts (B:BR σ b most bl T H ids sh kp c0 c1 c2) (x y z:Nat):BR (σ.set (.list (b+16)) (.list [.int x,.int y,.int z])) b most bl T H ids sh kp x y z where
 side:=by simpa [qaa]using B.side
 hands:=by simpa [qaa]using B.hands
 shown:=by simpa [qaa]using B.shown
 kept:=by simpa [qaa]using B.kept
 counts:=by simp [qaa]
theorem BR.setShown (B:BR σ b most bl T H ids sh kp c0 c1 c2) {kvs:List (Int×V)} (hT:kvs.length≤T) (hg: ∀n:Nat,qa8 n kvs=(sh n).map V.bytes) (n:Nat) (x:List UInt8):
  BR (σ.set (.dict (b+15)) (.dictI (qbd n (.bytes x) kvs))) b most bl (T+1) H ids (fup sh n (some x)) kp c0 c1 c2 where
 side:=by simpa [qaa]using B.side
 hands:=by
  refine qao B.hands fun k h1 h2 h3=>?_
  exact⟨k,by simpa [qaa]using h1,Nat.le_succ_of_le h2,h3⟩
 shown:=⟨qbd n (.bytes x) kvs,by simp [qaa],Nat.le_trans (qa0 ..) (by(with_reducible exact oq6 ‹_› (by decide))),fun m=>by
  rw [qa5];by_cases e:m=n
  ·subst e;simp [qat]
  ·have: ¬(m:Int)=n:=by(with_reducible exact qo7 ‹_›)
   rw [if_neg this,hg,qak _ _ e]⟩
 kept:=by simpa [qaa]using B.kept
 counts:=by simpa [qaa]using B.counts
theorem BR.setKept (B:BR σ b most bl T H ids sh kp c0 c1 c2) (n:Nat) (x:List UInt8):BR (σ.set (.list (b+12)) (.list (((List.range bl).map fun n=>V.bytes (kp n)).set n (.bytes x)))) b most bl T H ids sh (fup kp n x) c0 c1 c2 where
 side:=by simpa [qaa]using B.side
 hands:=by simpa [qaa]using B.hands
 shown:=by simpa [qaa]using B.shown
 kept:=by simp [qaa,qss]
 counts:=by simpa [qaa]using B.counts
theorem BR.setHands (B:BR σ b most bl T H ids sh kp c0 c1 c2) {kvs:List (Int×V)} {H':List Nat} {ids':Nat→Nat} (hT:kvs.length≤T) (hg: ∀n:Nat,qa8 n kvs=if n∈H' then some (.ref (.inst .buffer (ids' n)))else none):
  BR (σ.set (.dict (b+14)) (.dictI kvs)) b most bl T H' ids' sh kp c0 c1 c2 where
 side:=by simpa [qaa]using B.side
 hands:=⟨kvs,by simp [qaa],hT,hg⟩
 shown:=by simpa [qaa]using B.shown
 kept:=by simpa [qaa]using B.kept
 counts:=by simpa [qaa]using B.counts
theorem BR.newTup (B:BR σ b most bl T H ids sh kp c0 c1 c2) (hlt:b+18≤σ.next) (o:MObj):BR (σ.new .tup o) b most bl T H ids sh kp c0 c1 c2:=B.newMore hlt rfl
theorem Go.newTup {O:Nat→Prop} (o:MObj):Go O O σ (σ.new .tup o):=Go.newMore rfl
theorem Go.bookSet {l:Loc} {o:MObj} (h1:b+12≤l.n) (h2:l.n<b+18):Go (qdf b) (qdf b) σ (σ.set l o):=Go.set ⟨h1,h2⟩
variable {t n p hL bt:Nat} {oct x:List UInt8}
theorem qv4 {kvs:List (Int×V)} (hk: ∀n:Nat,qa8 n kvs=(sh n).map V.bytes) (n:Nat) (y:List UInt8) (m:Nat):qa8 m (qbd n (.bytes y) kvs)=(fup sh n (some y) m).map V.bytes:=by
 rw [qa5];by_cases e:m=n
 ·subst e;simp [qat]
 ·have: ¬(m:Int)=n:=by(with_reducible exact qo7 ‹_›)
  rw [if_neg this,hk,qak _ _ e]
theorem due0 (B:BR σ b most bl T H ids sh kp c0 c1 c2) (hlt:b+18≤σ.next) (ht:σ.heap (.tup t)=some (qbh 0 n p oct)) (hb:bt<most) (hx:sh n=some x) (hTb:T≤1000):
  ∃σ',qag Pm (d+1) (.f "_law_due") [sd b,.ref (.tup t),.ref (.list hL),.int bt] σ=some (.bytes x,σ')∧BR σ' b most bl (T+2) H ids sh kp (c0+1) c1 c2∧Go (qdf b) (qdf b) σ σ':=by
 refine qao B.shown fun kvs hs hT hk=>?_
 have hg1:=hk n
 rw [hx]at hg1;simp only [Option.map_some]at hg1;have hk1:kvs.length≤100000:=by(with_reducible exact Nat.le_trans ‹_› (Nat.le_trans ‹_› (by decide)))
 have hk2: ∀y:V,(qbd n y kvs).length≤100000:=fun y=>Nat.le_trans (qa0 ..) (by lia)
 have BB:=(((((B.newTup hlt (t3 b)).setCounts (c0+1) c1 c2).newTup (by simp [qaf,qae];(with_reducible exact oq1 ‹_› (by decide))) t45).newTup (by simp [qaf,qae];(with_reducible exact oq1 ‹_› (by decide))) t15).newTup (by simp [qaf,qae];(with_reducible exact oq1 ‹_› (by decide))) qbe)
 refine⟨((((σ.new .tup (t3 b)).set (.list (b+16)) (.list [.int (((c0+1):Nat):Int),.int ((c1:Nat):Int),.int ((c2:Nat):Int)])).new .tup t45).new .tup t15).new .tup qbe,?_,BB.mono (by(with_reducible exact Nat.le_add_right _ _)),(((((Go.newTup (t3 b)).trans (Go.bookSet (by simp [Loc.n]) (by simp [Loc.n]))).trans (Go.newTup t45)).trans (Go.newTup t15)).trans (Go.newTup qbe))⟩
 rw [qbb];simp(decide:=true) [-String.reduceEq,-String.reduceNe,-BEq.rfl,l0,ints?,qa9,sd,ht,qbh,t3,t45,t15,qbe,B.side,B.counts,B.kept,hs,hb,hg1,qa5,hk1,hk2]
theorem due0m (B:BR σ b most bl T H ids sh kp c0 c1 c2) (hlt:b+18≤σ.next) (ht:σ.heap (.tup t)=some (qbh 0 n p oct)) (hb: ¬bt<most) (hnb:n<bl) (hTb:T≤1000):
  ∃σ',qag Pm (d+1) (.f "_law_due") [sd b,.ref (.tup t),.ref (.list hL),.int bt] σ=some (.bytes (kp n),σ')∧BR σ' b most bl (T+2) H ids (fup sh n (some (kp n))) kp c0 (c1+1) c2∧Go (qdf b) (qdf b) σ σ':=by
 refine qao B.shown fun kvs hs hT hk=>?_
 have hkg:=qcp hnb kp
 have hnb2:(n:Int)<bl:=by(with_reducible exact Int.ofNat_lt.mpr ‹_›)
 have hk1:kvs.length≤100000:=by(with_reducible exact Nat.le_trans ‹_› (Nat.le_trans ‹_› (by decide)))
 have hk2: ∀y:V,(qbd n y kvs).length≤100000:=fun y=>Nat.le_trans (qa0 ..) (by lia)
 have BB:=((((((B.newTup hlt (t3 b)).setCounts c0 (c1+1) c2).setShown hT hk n (kp n)).newTup (by simp [qaf,qae];(with_reducible exact oq1 ‹_› (by decide))) t45).newTup (by simp [qaf,qae];(with_reducible exact oq1 ‹_› (by decide))) t15).newTup (by simp [qaf,qae];(with_reducible exact oq1 ‹_› (by decide))) qbe)
 refine⟨(((((σ.new .tup (t3 b)).set (.list (b+16)) (.list [.int ((c0:Nat):Int),.int (((c1+1):Nat):Int),.int ((c2:Nat):Int)])).set (.dict (b+15)) (.dictI (qbd n (.bytes (kp n)) kvs))).new .tup t45).new .tup t15).new .tup qbe,?_,BB.mono (by(with_reducible exact oq3 (by decide))),((((((Go.newTup (t3 b)).trans (Go.bookSet (by simp [Loc.n]) (by simp [Loc.n]))).trans (Go.bookSet (by simp [Loc.n]) (by simp [Loc.n]))).trans (Go.newTup t45)).trans (Go.newTup t15)).trans (Go.newTup qbe))⟩
 rw [qbb];simp(decide:=true) [-String.reduceEq,-String.reduceNe,-BEq.rfl,l0,ints?,qa9,sd,ht,qbh,t3,t45,t15,qbe,B.side,B.counts,B.kept,hs,hb,qa5,hkg,hnb,hnb2,hk1,hk2]
theorem due2 (B:BR σ b most bl T H ids sh kp c0 c1 c2) (hlt:b+18≤σ.next) (ht:σ.heap (.tup t)=some (qbh 2 n p oct)) (hb:bt<most) (hx:sh n=some x) (hTb:T≤1000):
  ∃σ',qag Pm (d+1) (.f "_law_due") [sd b,.ref (.tup t),.ref (.list hL),.int bt] σ=some (.bytes x,σ')∧BR σ' b most bl (T+2) H ids sh kp (c0+1) c1 c2∧Go (qdf b) (qdf b) σ σ':=by
 refine qao B.shown fun kvs hs hT hk=>?_
 have hg1:=hk n
 rw [hx]at hg1;simp only [Option.map_some]at hg1;have hk1:kvs.length≤100000:=by(with_reducible exact Nat.le_trans ‹_› (Nat.le_trans ‹_› (by decide)))
 have hk2: ∀y:V,(qbd n y kvs).length≤100000:=fun y=>Nat.le_trans (qa0 ..) (by lia)
 have BB:=(((((B.newTup hlt (t3 b)).setCounts (c0+1) c1 c2).newTup (by simp [qaf,qae];(with_reducible exact oq1 ‹_› (by decide))) t45).newTup (by simp [qaf,qae];(with_reducible exact oq1 ‹_› (by decide))) t15).newTup (by simp [qaf,qae];(with_reducible exact oq1 ‹_› (by decide))) qbe)
 refine⟨((((σ.new .tup (t3 b)).set (.list (b+16)) (.list [.int (((c0+1):Nat):Int),.int ((c1:Nat):Int),.int ((c2:Nat):Int)])).new .tup t45).new .tup t15).new .tup qbe,?_,BB.mono (by(with_reducible exact Nat.le_add_right _ _)),(((((Go.newTup (t3 b)).trans (Go.bookSet (by simp [Loc.n]) (by simp [Loc.n]))).trans (Go.newTup t45)).trans (Go.newTup t15)).trans (Go.newTup qbe))⟩
 rw [qbb];simp(decide:=true) [-String.reduceEq,-String.reduceNe,-BEq.rfl,l0,ints?,qa9,sd,ht,qbh,t3,t45,t15,qbe,B.side,B.counts,B.kept,hs,hb,hg1,qa5,hk1,hk2]
theorem due2m (B:BR σ b most bl T H ids sh kp c0 c1 c2) (hlt:b+18≤σ.next) (ht:σ.heap (.tup t)=some (qbh 2 n p oct)) (hb: ¬bt<most) (hnb:n<bl) (hTb:T≤1000):
  ∃σ',qag Pm (d+1) (.f "_law_due") [sd b,.ref (.tup t),.ref (.list hL),.int bt] σ=some (.bytes (kp n),σ')∧BR σ' b most bl (T+2) H ids (fup sh n (some (kp n))) kp c0 (c1+1) c2∧Go (qdf b) (qdf b) σ σ':=by
 refine qao B.shown fun kvs hs hT hk=>?_
 have hkg:=qcp hnb kp
 have hnb2:(n:Int)<bl:=by(with_reducible exact Int.ofNat_lt.mpr ‹_›)
 have hk1:kvs.length≤100000:=by(with_reducible exact Nat.le_trans ‹_› (Nat.le_trans ‹_› (by decide)))
 have hk2: ∀y:V,(qbd n y kvs).length≤100000:=fun y=>Nat.le_trans (qa0 ..) (by lia)
 have BB:=((((((B.newTup hlt (t3 b)).setCounts c0 (c1+1) c2).setShown hT hk n (kp n)).newTup (by simp [qaf,qae];(with_reducible exact oq1 ‹_› (by decide))) t45).newTup (by simp [qaf,qae];(with_reducible exact oq1 ‹_› (by decide))) t15).newTup (by simp [qaf,qae];(with_reducible exact oq1 ‹_› (by decide))) qbe)
 refine⟨(((((σ.new .tup (t3 b)).set (.list (b+16)) (.list [.int ((c0:Nat):Int),.int (((c1+1):Nat):Int),.int ((c2:Nat):Int)])).set (.dict (b+15)) (.dictI (qbd n (.bytes (kp n)) kvs))).new .tup t45).new .tup t15).new .tup qbe,?_,BB.mono (by(with_reducible exact oq3 (by decide))),((((((Go.newTup (t3 b)).trans (Go.bookSet (by simp [Loc.n]) (by simp [Loc.n]))).trans (Go.bookSet (by simp [Loc.n]) (by simp [Loc.n]))).trans (Go.newTup t45)).trans (Go.newTup t15)).trans (Go.newTup qbe))⟩
 rw [qbb];simp(decide:=true) [-String.reduceEq,-String.reduceNe,-BEq.rfl,l0,ints?,qa9,sd,ht,qbh,t3,t45,t15,qbe,B.side,B.counts,B.kept,hs,hb,qa5,hkg,hnb,hnb2,hk1,hk2]
theorem due1 (B:BR σ b most bl T H ids sh kp c0 c1 c2) (hlt:b+18≤σ.next) (ht:σ.heap (.tup t)=some (qbh 1 n p oct)) (hb:bt<most) (hx:sh n=some x) (hnb:n<bl) (hTb:T≤1000) {GG:Prop} (kk: ∀σ',qag Pm (d+1) (.f "_law_due") [sd b,.ref (.tup t),.ref (.list hL),.int bt] σ=some (.none,σ')→BR σ' b most bl (T+2) H ids (fup sh n (some oct)) (fup kp n oct) (c0+1) c1 (c2+1)→Go (qdf b) (qdf b) σ σ'→GG):GG:=by
 refine qao B.shown fun kvs hs hT hk=>?_
 have hg1:=hk n
 rw [hx]at hg1;simp only [Option.map_some]at hg1;have hkg:=qcp hnb kp
 have hnb2:(n:Int)<bl:=by(with_reducible exact Int.ofNat_lt.mpr ‹_›)
 have hk1:kvs.length≤100000:=by(with_reducible exact Nat.le_trans ‹_› (Nat.le_trans ‹_› (by decide)))
 have hk2: ∀y:V,(qbd n y kvs).length≤100000:=fun y=>Nat.le_trans (qa0 ..) (by lia)
 have BB:=(((((((B.newTup hlt (t3 b)).setCounts (c0+1) c1 c2).setShown hT hk n oct).newTup (by simp [qaf,qae];(with_reducible exact oq1 ‹_› (by decide))) t15).setCounts (c0+1) c1 (c2+1)).setKept n oct).newTup (by simp [qaf,qae];(with_reducible exact oq1 ‹_› (by decide))) qbe)
 refine kk (((((((σ.new .tup (t3 b)).set (.list (b+16)) (.list [.int (((c0+1):Nat):Int),.int ((c1:Nat):Int),.int ((c2:Nat):Int)])).set (.dict (b+15)) (.dictI (qbd n (.bytes oct) kvs))).new .tup t15).set (.list (b+16)) (.list [.int (((c0+1):Nat):Int),.int ((c1:Nat):Int),.int (((c2+1):Nat):Int)])).set (.list (b+12)) (.list (((List.range bl).map fun n=>V.bytes (kp n)).set n (.bytes oct)))).new .tup qbe) ?_ (BB.mono (by(with_reducible exact oq3 (by decide)))) (((((((Go.newTup (t3 b)).trans (Go.bookSet (by simp [Loc.n]) (by simp [Loc.n]))).trans (Go.bookSet (by simp [Loc.n]) (by simp [Loc.n]))).trans (Go.newTup t15)).trans (Go.bookSet (by simp [Loc.n]) (by simp [Loc.n]))).trans (Go.bookSet (by simp [Loc.n]) (by simp [Loc.n]))).trans (Go.newTup qbe))
 rw [qbb];simp(decide:=true) [-String.reduceEq,-String.reduceNe,-BEq.rfl,l0,ints?,qa9,sd,ht,qbh,t3,t45,t15,qbe,B.side,B.counts,B.kept,hs,hb,hg1,qa5,hkg,hnb,hnb2,hk1,hk2]
theorem due1m (B:BR σ b most bl T H ids sh kp c0 c1 c2) (hlt:b+18≤σ.next) (ht:σ.heap (.tup t)=some (qbh 1 n p oct)) (hb: ¬bt<most) (hnb:n<bl) (hTb:T≤1000):
  ∃σ',qag Pm (d+1) (.f "_law_due") [sd b,.ref (.tup t),.ref (.list hL),.int bt] σ=some (.none,σ')∧BR σ' b most bl (T+2) H ids (fup (fup sh n (some (kp n))) n (some oct)) (fup kp n oct) c0 (c1+1) (c2+1)∧Go (qdf b) (qdf b) σ σ':=by
 refine qao B.shown fun kvs hs hT hk=>?_
 have hkg:=qcp hnb kp
 have hnb2:(n:Int)<bl:=by(with_reducible exact Int.ofNat_lt.mpr ‹_›)
 have hk1:kvs.length≤100000:=by(with_reducible exact Nat.le_trans ‹_› (Nat.le_trans ‹_› (by decide)))
 have hk2: ∀y:V,(qbd n y kvs).length≤100000:=fun y=>Nat.le_trans (qa0 ..) (by lia)
 have BB:=((((((((B.newTup hlt (t3 b)).setCounts c0 (c1+1) c2).setShown hT hk n (kp n)).setShown (Nat.le_trans (qa0 ..) (by(with_reducible exact oq6 ‹_› (by decide)))) (qv4 hk n (kp n)) n oct).newTup (by simp [qaf,qae];(with_reducible exact oq1 ‹_› (by decide))) t15).setCounts c0 (c1+1) (c2+1)).setKept n oct).newTup (by simp [qaf,qae];(with_reducible exact oq1 ‹_› (by decide))) qbe)
 refine⟨(((((((σ.new .tup (t3 b)).set (.list (b+16)) (.list [.int ((c0:Nat):Int),.int (((c1+1):Nat):Int),.int ((c2:Nat):Int)])).set (.dict (b+15)) (.dictI (qbd n (.bytes (kp n)) kvs))).set (.dict (b+15)) (.dictI (qbd n (.bytes oct) (qbd n (.bytes (kp n)) kvs)))).new .tup t15).set (.list (b+16)) (.list [.int ((c0:Nat):Int),.int (((c1+1):Nat):Int),.int (((c2+1):Nat):Int)])).set (.list (b+12)) (.list (((List.range bl).map fun n=>V.bytes (kp n)).set n (.bytes oct)))).new .tup qbe,?_,BB.mono (by(with_reducible exact Nat.le_refl _)),((((((((Go.newTup (t3 b)).trans (Go.bookSet (by simp [Loc.n]) (by simp [Loc.n]))).trans (Go.bookSet (by simp [Loc.n]) (by simp [Loc.n]))).trans (Go.bookSet (by simp [Loc.n]) (by simp [Loc.n]))).trans (Go.newTup t15)).trans (Go.bookSet (by simp [Loc.n]) (by simp [Loc.n]))).trans (Go.bookSet (by simp [Loc.n]) (by simp [Loc.n]))).trans (Go.newTup qbe))⟩
 rw [qbb];simp(decide:=true) [-String.reduceEq,-String.reduceNe,-BEq.rfl,l0,ints?,qa9,sd,ht,qbh,t3,t45,t15,qbe,B.side,B.counts,B.kept,hs,hb,qa5,hkg,hnb,hnb2,hk1,hk2]
theorem due3 (B:BR σ b most bl T H ids sh kp c0 c1 c2) (hlt:b+18≤σ.next) (ht:σ.heap (.tup t)=some (qbh 3 n p oct)) (hTb:T≤1000):
  ∃σ',qag Pm (d+1) (.f "_law_due") [sd b,.ref (.tup t),.ref (.list hL),.int bt] σ=some (.none,σ')∧BR σ' b most bl (T+2) H ids sh kp c0 c1 c2∧Go (qdf b) (qdf b) σ σ':=by
 refine qao B.shown fun kvs hs hT hk=>?_
 have hk1:kvs.length≤100000:=by(with_reducible exact Nat.le_trans ‹_› (Nat.le_trans ‹_› (by decide)))
 have hk2: ∀y:V,(qbd n y kvs).length≤100000:=fun y=>Nat.le_trans (qa0 ..) (by lia)
 have BB:=(((((B.newTup hlt (t3 b)).newTup (by simp [qaf,qae];(with_reducible exact oq1 ‹_› (by decide))) t45).newTup (by simp [qaf,qae];(with_reducible exact oq1 ‹_› (by decide))) t45).newTup (by simp [qaf,qae];(with_reducible exact oq1 ‹_› (by decide))) t15).newTup (by simp [qaf,qae];(with_reducible exact oq1 ‹_› (by decide))) qbe)
 refine⟨((((σ.new .tup (t3 b)).new .tup t45).new .tup t45).new .tup t15).new .tup qbe,?_,BB.mono (by(with_reducible exact Nat.le_add_right _ _)),(((((Go.newTup (t3 b)).trans (Go.newTup t45)).trans (Go.newTup t45)).trans (Go.newTup t15)).trans (Go.newTup qbe))⟩
 rw [qbb];simp(decide:=true) [-String.reduceEq,-String.reduceNe,-BEq.rfl,l0,ints?,qa9,sd,ht,qbh,t3,t45,t15,qbe,B.side,B.counts,B.kept,hs,qa5,hk1,hk2]
theorem due7 (B:BR σ b most bl T H ids sh kp c0 c1 c2) (hlt:b+18≤σ.next) (ht:σ.heap (.tup t)=some (qbh 7 n p oct)) (hTb:T≤1000):
  ∃σ',qag Pm (d+1) (.f "_law_due") [sd b,.ref (.tup t),.ref (.list hL),.int bt] σ=some (.none,σ')∧BR σ' b most bl (T+2) H ids sh kp c0 c1 c2∧Go (qdf b) (qdf b) σ σ':=by
 refine qao B.shown fun kvs hs hT hk=>?_
 have hk1:kvs.length≤100000:=by(with_reducible exact Nat.le_trans ‹_› (Nat.le_trans ‹_› (by decide)))
 have hk2: ∀y:V,(qbd n y kvs).length≤100000:=fun y=>Nat.le_trans (qa0 ..) (by lia)
 have BB:=(((((B.newTup hlt (t3 b)).newTup (by simp [qaf,qae];(with_reducible exact oq1 ‹_› (by decide))) t45).newTup (by simp [qaf,qae];(with_reducible exact oq1 ‹_› (by decide))) t45).newTup (by simp [qaf,qae];(with_reducible exact oq1 ‹_› (by decide))) t15).newTup (by simp [qaf,qae];(with_reducible exact oq1 ‹_› (by decide))) qbe)
 refine⟨((((σ.new .tup (t3 b)).new .tup t45).new .tup t45).new .tup t15).new .tup qbe,?_,BB.mono (by(with_reducible exact Nat.le_add_right _ _)),(((((Go.newTup (t3 b)).trans (Go.newTup t45)).trans (Go.newTup t45)).trans (Go.newTup t15)).trans (Go.newTup qbe))⟩
 rw [qbb];simp(decide:=true) [-String.reduceEq,-String.reduceNe,-BEq.rfl,l0,ints?,qa9,sd,ht,qbh,t3,t45,t15,qbe,B.side,B.counts,B.kept,hs,qa5,hk1,hk2]
theorem due6 (B:BR σ b most bl T H ids sh kp c0 c1 c2) (hlt:b+18≤σ.next) (ht:σ.heap (.tup t)=some (qbh 6 n p oct)) (hnb:n<bl) (hTb:T≤1000) {GG:Prop} (kk: ∀σ',qag Pm (d+1) (.f "_law_due") [sd b,.ref (.tup t),.ref (.list hL),.int bt] σ=some (.none,σ')→BR σ' b most bl (T+2) H ids sh (fup kp n oct) c0 c1 c2→Go (qdf b) (qdf b) σ σ'→GG):GG:=by
 refine qao B.shown fun kvs hs hT hk=>?_
 have hkg:=qcp hnb kp
 have hnb2:(n:Int)<bl:=by(with_reducible exact Int.ofNat_lt.mpr ‹_›)
 have hk1:kvs.length≤100000:=by(with_reducible exact Nat.le_trans ‹_› (Nat.le_trans ‹_› (by decide)))
 have hk2: ∀y:V,(qbd n y kvs).length≤100000:=fun y=>Nat.le_trans (qa0 ..) (by lia)
 have BB:=((((((B.newTup hlt (t3 b)).newTup (by simp [qaf,qae];(with_reducible exact oq1 ‹_› (by decide))) t45).newTup (by simp [qaf,qae];(with_reducible exact oq1 ‹_› (by decide))) t45).newTup (by simp [qaf,qae];(with_reducible exact oq1 ‹_› (by decide))) t15).setKept n oct).newTup (by simp [qaf,qae];(with_reducible exact oq1 ‹_› (by decide))) qbe)
 refine kk ((((((σ.new .tup (t3 b)).new .tup t45).new .tup t45).new .tup t15).set (.list (b+12)) (.list (((List.range bl).map fun n=>V.bytes (kp n)).set n (.bytes oct)))).new .tup qbe) ?_ (BB.mono (by(with_reducible exact Nat.le_add_right _ _))) ((((((Go.newTup (t3 b)).trans (Go.newTup t45)).trans (Go.newTup t45)).trans (Go.newTup t15)).trans (Go.bookSet (by simp [Loc.n]) (by simp [Loc.n]))).trans (Go.newTup qbe))
 rw [qbb];simp(decide:=true) [-String.reduceEq,-String.reduceNe,-BEq.rfl,l0,ints?,qa9,sd,ht,qbh,t3,t45,t15,qbe,B.side,B.counts,B.kept,hs,qa5,hkg,hnb,hnb2,hk1,hk2]
theorem due4 (B:BR σ b most bl T H ids sh kp c0 c1 c2) (hlt:b+18≤σ.next) (ht:σ.heap (.tup t)=some (qbh 4 n p oct)) (hn:n∉H) (hh:σ.heap (.list hL)=some (.list (H.map fun n:Nat=>V.int n))) (hb:bt<most) (hx:sh n=some x) (hol:oct.length≤64) (hxl:(x).length≤64) (hxo:((x).take p).length+(oct.drop p).length≤64) (hnb:n<bl) (hTb:T≤1000):
  ∃σ',qag Pm (d+1) (.f "_law_due") [sd b,.ref (.tup t),.ref (.list hL),.int bt] σ=some (.bytes x,σ')∧BR σ' b most bl (T+2) H ids (fup sh n (some ((x).take p++oct.drop p))) kp (c0+1) c1 c2∧Go (qdf b) (qdf b) σ σ':=by
 refine qao B.shown fun kvs hs hT hk=>?_
 have hg1:=hk n
 rw [hx]at hg1;simp only [Option.map_some]at hg1;have hin:inV (.int n) (.ref (.list hL)) σ=some (decide (n∈H)):=by simp only [qew,hh,qjd,qa7,Option.map_some,qfi]
 have hmem:(∃a,a∈H∧(a:Int)=(n:Int)) ↔ n∈H:=⟨fun⟨a,h1,h2⟩=>(Int.ofNat.inj h2) ▸ h1,fun h=>⟨n,h,rfl⟩⟩
 have ho1:oct.length≤1000:=by(with_reducible exact Nat.le_trans ‹_› (by decide))
 have hx1:(x).length≤1000:=by(with_reducible exact Nat.le_trans ‹_› (by decide))
 simp only [List.length_take,List.length_drop]at hxo;have hkg:=qcp hnb kp
 have hnb2:(n:Int)<bl:=by(with_reducible exact Int.ofNat_lt.mpr ‹_›)
 have hk1:kvs.length≤100000:=by(with_reducible exact Nat.le_trans ‹_› (Nat.le_trans ‹_› (by decide)))
 have hk2: ∀y:V,(qbd n y kvs).length≤100000:=fun y=>Nat.le_trans (qa0 ..) (by lia)
 have BB:=(((((((B.newTup hlt (t3 b)).newTup (by simp [qaf,qae];(with_reducible exact oq1 ‹_› (by decide))) t45).setCounts (c0+1) c1 c2).newTup (by simp [qaf,qae];(with_reducible exact oq1 ‹_› (by decide))) t45).setShown hT hk n ((x).take p++oct.drop p)).newTup (by simp [qaf,qae];(with_reducible exact oq1 ‹_› (by decide))) t15).newTup (by simp [qaf,qae];(with_reducible exact oq1 ‹_› (by decide))) qbe)
 refine⟨((((((σ.new .tup (t3 b)).new .tup t45).set (.list (b+16)) (.list [.int (((c0+1):Nat):Int),.int ((c1:Nat):Int),.int ((c2:Nat):Int)])).new .tup t45).set (.dict (b+15)) (.dictI (qbd n (.bytes ((x).take p++oct.drop p)) kvs))).new .tup t15).new .tup qbe,?_,BB.mono (by(with_reducible exact oq3 (by decide))),(((((((Go.newTup (t3 b)).trans (Go.newTup t45)).trans (Go.bookSet (by simp [Loc.n]) (by simp [Loc.n]))).trans (Go.newTup t45)).trans (Go.bookSet (by simp [Loc.n]) (by simp [Loc.n]))).trans (Go.newTup t15)).trans (Go.newTup qbe))⟩
 rw [qbb];simp(decide:=true) [-String.reduceEq,-String.reduceNe,-BEq.rfl,l0,ints?,qa9,sd,ht,qbh,t3,t45,t15,qbe,B.side,B.counts,B.kept,hs,hb,hg1,qa5,hh,qa7,hn,hmem,ho1,hx1,hxo,hkg,hnb,hnb2,hk1,hk2]
theorem due4m (B:BR σ b most bl T H ids sh kp c0 c1 c2) (hlt:b+18≤σ.next) (ht:σ.heap (.tup t)=some (qbh 4 n p oct)) (hn:n∉H) (hh:σ.heap (.list hL)=some (.list (H.map fun n:Nat=>V.int n))) (hb: ¬bt<most) (hol:oct.length≤64) (hxl:(kp n).length≤64) (hxo:((kp n).take p).length+(oct.drop p).length≤64) (hnb:n<bl) (hTb:T≤1000):
  ∃σ',qag Pm (d+1) (.f "_law_due") [sd b,.ref (.tup t),.ref (.list hL),.int bt] σ=some (.bytes (kp n),σ')∧BR σ' b most bl (T+2) H ids (fup (fup sh n (some (kp n))) n (some (((kp n)).take p++oct.drop p))) kp c0 (c1+1) c2∧Go (qdf b) (qdf b) σ σ':=by
 refine qao B.shown fun kvs hs hT hk=>?_
 have hin:inV (.int n) (.ref (.list hL)) σ=some (decide (n∈H)):=by simp only [qew,hh,qjd,qa7,Option.map_some,qfi]
 have hmem:(∃a,a∈H∧(a:Int)=(n:Int)) ↔ n∈H:=⟨fun⟨a,h1,h2⟩=>(Int.ofNat.inj h2) ▸ h1,fun h=>⟨n,h,rfl⟩⟩
 have ho1:oct.length≤1000:=by(with_reducible exact Nat.le_trans ‹_› (by decide))
 have hx1:(kp n).length≤1000:=by(with_reducible exact Nat.le_trans ‹_› (by decide))
 simp only [List.length_take,List.length_drop]at hxo;have hkg:=qcp hnb kp
 have hnb2:(n:Int)<bl:=by(with_reducible exact Int.ofNat_lt.mpr ‹_›)
 have hk1:kvs.length≤100000:=by(with_reducible exact Nat.le_trans ‹_› (Nat.le_trans ‹_› (by decide)))
 have hk2: ∀y:V,(qbd n y kvs).length≤100000:=fun y=>Nat.le_trans (qa0 ..) (by lia)
 have BB:=((((((((B.newTup hlt (t3 b)).newTup (by simp [qaf,qae];(with_reducible exact oq1 ‹_› (by decide))) t45).setCounts c0 (c1+1) c2).setShown hT hk n (kp n)).newTup (by simp [qaf,qae];(with_reducible exact oq1 ‹_› (by decide))) t45).setShown (Nat.le_trans (qa0 ..) (by(with_reducible exact oq6 ‹_› (by decide)))) (qv4 hk n (kp n)) n (((kp n)).take p++oct.drop p)).newTup (by simp [qaf,qae];(with_reducible exact oq1 ‹_› (by decide))) t15).newTup (by simp [qaf,qae];(with_reducible exact oq1 ‹_› (by decide))) qbe)
 refine⟨(((((((σ.new .tup (t3 b)).new .tup t45).set (.list (b+16)) (.list [.int ((c0:Nat):Int),.int (((c1+1):Nat):Int),.int ((c2:Nat):Int)])).set (.dict (b+15)) (.dictI (qbd n (.bytes (kp n)) kvs))).new .tup t45).set (.dict (b+15)) (.dictI (qbd n (.bytes (((kp n)).take p++oct.drop p)) (qbd n (.bytes (kp n)) kvs)))).new .tup t15).new .tup qbe,?_,BB.mono (by(with_reducible exact Nat.le_refl _)),((((((((Go.newTup (t3 b)).trans (Go.newTup t45)).trans (Go.bookSet (by simp [Loc.n]) (by simp [Loc.n]))).trans (Go.bookSet (by simp [Loc.n]) (by simp [Loc.n]))).trans (Go.newTup t45)).trans (Go.bookSet (by simp [Loc.n]) (by simp [Loc.n]))).trans (Go.newTup t15)).trans (Go.newTup qbe))⟩
 rw [qbb];simp(decide:=true) [-String.reduceEq,-String.reduceNe,-BEq.rfl,l0,ints?,qa9,sd,ht,qbh,t3,t45,t15,qbe,B.side,B.counts,B.kept,hs,hb,qa5,hh,qa7,hn,hmem,ho1,hx1,hxo,hkg,hnb,hnb2,hk1,hk2]
theorem due5 (B:BR σ b most bl T H ids sh kp c0 c1 c2) (hlt:b+18≤σ.next) (ht:σ.heap (.tup t)=some (qbh 5 n p oct)) (hn:n∉H) (hh:σ.heap (.list hL)=some (.list (H.map fun n:Nat=>V.int n))) (hb:bt<most) (hx:sh n=some x) (hol:oct.length≤64) (hxl:(x).length≤64) (hxo:((x).take p).length+(oct.drop p).length≤64) (hnb:n<bl) (hTb:T≤1000):
  ∃σ',qag Pm (d+1) (.f "_law_due") [sd b,.ref (.tup t),.ref (.list hL),.int bt] σ=some (.bytes x,σ')∧BR σ' b most bl (T+2) H ids (fup sh n (some ((x).take p++oct.drop p))) (fup kp n ((x).take p++oct.drop p)) (c0+1) c1 (c2+1)∧Go (qdf b) (qdf b) σ σ':=by
 refine qao B.shown fun kvs hs hT hk=>?_
 have hg1:=hk n
 rw [hx]at hg1;simp only [Option.map_some]at hg1;have hin:inV (.int n) (.ref (.list hL)) σ=some (decide (n∈H)):=by simp only [qew,hh,qjd,qa7,Option.map_some,qfi]
 have hmem:(∃a,a∈H∧(a:Int)=(n:Int)) ↔ n∈H:=⟨fun⟨a,h1,h2⟩=>(Int.ofNat.inj h2) ▸ h1,fun h=>⟨n,h,rfl⟩⟩
 have ho1:oct.length≤1000:=by(with_reducible exact Nat.le_trans ‹_› (by decide))
 have hx1:(x).length≤1000:=by(with_reducible exact Nat.le_trans ‹_› (by decide))
 simp only [List.length_take,List.length_drop]at hxo;have hkg:=qcp hnb kp
 have hnb2:(n:Int)<bl:=by(with_reducible exact Int.ofNat_lt.mpr ‹_›)
 have hk1:kvs.length≤100000:=by(with_reducible exact Nat.le_trans ‹_› (Nat.le_trans ‹_› (by decide)))
 have hk2: ∀y:V,(qbd n y kvs).length≤100000:=fun y=>Nat.le_trans (qa0 ..) (by lia)
 have BB:=(((((((((B.newTup hlt (t3 b)).newTup (by simp [qaf,qae];(with_reducible exact oq1 ‹_› (by decide))) t45).setCounts (c0+1) c1 c2).newTup (by simp [qaf,qae];(with_reducible exact oq1 ‹_› (by decide))) t45).setShown hT hk n ((x).take p++oct.drop p)).newTup (by simp [qaf,qae];(with_reducible exact oq1 ‹_› (by decide))) t15).setCounts (c0+1) c1 (c2+1)).setKept n ((x).take p++oct.drop p)).newTup (by simp [qaf,qae];(with_reducible exact oq1 ‹_› (by decide))) qbe)
 refine⟨((((((((σ.new .tup (t3 b)).new .tup t45).set (.list (b+16)) (.list [.int (((c0+1):Nat):Int),.int ((c1:Nat):Int),.int ((c2:Nat):Int)])).new .tup t45).set (.dict (b+15)) (.dictI (qbd n (.bytes ((x).take p++oct.drop p)) kvs))).new .tup t15).set (.list (b+16)) (.list [.int (((c0+1):Nat):Int),.int ((c1:Nat):Int),.int (((c2+1):Nat):Int)])).set (.list (b+12)) (.list (((List.range bl).map fun n=>V.bytes (kp n)).set n (.bytes ((x).take p++oct.drop p))))).new .tup qbe,?_,BB.mono (by(with_reducible exact oq3 (by decide))),(((((((((Go.newTup (t3 b)).trans (Go.newTup t45)).trans (Go.bookSet (by simp [Loc.n]) (by simp [Loc.n]))).trans (Go.newTup t45)).trans (Go.bookSet (by simp [Loc.n]) (by simp [Loc.n]))).trans (Go.newTup t15)).trans (Go.bookSet (by simp [Loc.n]) (by simp [Loc.n]))).trans (Go.bookSet (by simp [Loc.n]) (by simp [Loc.n]))).trans (Go.newTup qbe))⟩
 rw [qbb];simp(decide:=true) [-String.reduceEq,-String.reduceNe,-BEq.rfl,l0,ints?,qa9,sd,ht,qbh,t3,t45,t15,qbe,B.side,B.counts,B.kept,hs,hb,hg1,qa5,hh,qa7,hn,hmem,ho1,hx1,hxo,hkg,hnb,hnb2,hk1,hk2]
theorem due5m (B:BR σ b most bl T H ids sh kp c0 c1 c2) (hlt:b+18≤σ.next) (ht:σ.heap (.tup t)=some (qbh 5 n p oct)) (hn:n∉H) (hh:σ.heap (.list hL)=some (.list (H.map fun n:Nat=>V.int n))) (hb: ¬bt<most) (hol:oct.length≤64) (hxl:(kp n).length≤64) (hxo:((kp n).take p).length+(oct.drop p).length≤64) (hnb:n<bl) (hTb:T≤1000):
  ∃σ',qag Pm (d+1) (.f "_law_due") [sd b,.ref (.tup t),.ref (.list hL),.int bt] σ=some (.bytes (kp n),σ')∧BR σ' b most bl (T+2) H ids (fup (fup sh n (some (kp n))) n (some (((kp n)).take p++oct.drop p))) (fup kp n (((kp n)).take p++oct.drop p)) c0 (c1+1) (c2+1)∧Go (qdf b) (qdf b) σ σ':=by
 refine qao B.shown fun kvs hs hT hk=>?_
 have hin:inV (.int n) (.ref (.list hL)) σ=some (decide (n∈H)):=by simp only [qew,hh,qjd,qa7,Option.map_some,qfi]
 have hmem:(∃a,a∈H∧(a:Int)=(n:Int)) ↔ n∈H:=⟨fun⟨a,h1,h2⟩=>(Int.ofNat.inj h2) ▸ h1,fun h=>⟨n,h,rfl⟩⟩
 have ho1:oct.length≤1000:=by(with_reducible exact Nat.le_trans ‹_› (by decide))
 have hx1:(kp n).length≤1000:=by(with_reducible exact Nat.le_trans ‹_› (by decide))
 simp only [List.length_take,List.length_drop]at hxo;have hkg:=qcp hnb kp
 have hnb2:(n:Int)<bl:=by(with_reducible exact Int.ofNat_lt.mpr ‹_›)
 have hk1:kvs.length≤100000:=by(with_reducible exact Nat.le_trans ‹_› (Nat.le_trans ‹_› (by decide)))
 have hk2: ∀y:V,(qbd n y kvs).length≤100000:=fun y=>Nat.le_trans (qa0 ..) (by lia)
 have BB:=((((((((((B.newTup hlt (t3 b)).newTup (by simp [qaf,qae];(with_reducible exact oq1 ‹_› (by decide))) t45).setCounts c0 (c1+1) c2).setShown hT hk n (kp n)).newTup (by simp [qaf,qae];(with_reducible exact oq1 ‹_› (by decide))) t45).setShown (Nat.le_trans (qa0 ..) (by(with_reducible exact oq6 ‹_› (by decide)))) (qv4 hk n (kp n)) n (((kp n)).take p++oct.drop p)).newTup (by simp [qaf,qae];(with_reducible exact oq1 ‹_› (by decide))) t15).setCounts c0 (c1+1) (c2+1)).setKept n (((kp n)).take p++oct.drop p)).newTup (by simp [qaf,qae];(with_reducible exact oq1 ‹_› (by decide))) qbe)
 refine⟨(((((((((σ.new .tup (t3 b)).new .tup t45).set (.list (b+16)) (.list [.int ((c0:Nat):Int),.int (((c1+1):Nat):Int),.int ((c2:Nat):Int)])).set (.dict (b+15)) (.dictI (qbd n (.bytes (kp n)) kvs))).new .tup t45).set (.dict (b+15)) (.dictI (qbd n (.bytes (((kp n)).take p++oct.drop p)) (qbd n (.bytes (kp n)) kvs)))).new .tup t15).set (.list (b+16)) (.list [.int ((c0:Nat):Int),.int (((c1+1):Nat):Int),.int (((c2+1):Nat):Int)])).set (.list (b+12)) (.list (((List.range bl).map fun n=>V.bytes (kp n)).set n (.bytes (((kp n)).take p++oct.drop p))))).new .tup qbe,?_,BB.mono (by(with_reducible exact Nat.le_refl _)),((((((((((Go.newTup (t3 b)).trans (Go.newTup t45)).trans (Go.bookSet (by simp [Loc.n]) (by simp [Loc.n]))).trans (Go.bookSet (by simp [Loc.n]) (by simp [Loc.n]))).trans (Go.newTup t45)).trans (Go.bookSet (by simp [Loc.n]) (by simp [Loc.n]))).trans (Go.newTup t15)).trans (Go.bookSet (by simp [Loc.n]) (by simp [Loc.n]))).trans (Go.bookSet (by simp [Loc.n]) (by simp [Loc.n]))).trans (Go.newTup qbe))⟩
 rw [qbb];simp(decide:=true) [-String.reduceEq,-String.reduceNe,-BEq.rfl,l0,ints?,qa9,sd,ht,qbh,t3,t45,t15,qbe,B.side,B.counts,B.kept,hs,hb,qa5,hh,qa7,hn,hmem,ho1,hx1,hxo,hkg,hnb,hnb2,hk1,hk2]
theorem due4h (B:BR σ b most bl T H ids sh kp c0 c1 c2) (hlt:b+18≤σ.next) (ht:σ.heap (.tup t)=some (qbh 4 n p oct)) (hn:n∈H) (hh:σ.heap (.list hL)=some (.list (H.map fun n:Nat=>V.int n))) (hx:sh n=some x) (hol:oct.length≤64) (hxl:(x).length≤64) (hxo:((x).take p).length+(oct.drop p).length≤64) (hnb:n<bl) (hTb:T≤1000):
  ∃σ',qag Pm (d+1) (.f "_law_due") [sd b,.ref (.tup t),.ref (.list hL),.int bt] σ=some (.bytes x,σ')∧BR σ' b most bl (T+2) H ids (fup sh n (some ((x).take p++oct.drop p))) kp c0 c1 c2∧Go (qdf b) (qdf b) σ σ':=by
 refine qao B.shown fun kvs hs hT hk=>?_
 have hg1:=hk n
 rw [hx]at hg1;simp only [Option.map_some]at hg1;have hin:inV (.int n) (.ref (.list hL)) σ=some (decide (n∈H)):=by simp only [qew,hh,qjd,qa7,Option.map_some,qfi]
 have hmem:(∃a,a∈H∧(a:Int)=(n:Int)) ↔ n∈H:=⟨fun⟨a,h1,h2⟩=>(Int.ofNat.inj h2) ▸ h1,fun h=>⟨n,h,rfl⟩⟩
 have ho1:oct.length≤1000:=by(with_reducible exact Nat.le_trans ‹_› (by decide))
 have hx1:(x).length≤1000:=by(with_reducible exact Nat.le_trans ‹_› (by decide))
 simp only [List.length_take,List.length_drop]at hxo;have hkg:=qcp hnb kp
 have hnb2:(n:Int)<bl:=by(with_reducible exact Int.ofNat_lt.mpr ‹_›)
 have hk1:kvs.length≤100000:=by(with_reducible exact Nat.le_trans ‹_› (Nat.le_trans ‹_› (by decide)))
 have hk2: ∀y:V,(qbd n y kvs).length≤100000:=fun y=>Nat.le_trans (qa0 ..) (by lia)
 have BB:=((((((B.newTup hlt (t3 b)).newTup (by simp [qaf,qae];(with_reducible exact oq1 ‹_› (by decide))) t45).newTup (by simp [qaf,qae];(with_reducible exact oq1 ‹_› (by decide))) t45).setShown hT hk n ((x).take p++oct.drop p)).newTup (by simp [qaf,qae];(with_reducible exact oq1 ‹_› (by decide))) t15).newTup (by simp [qaf,qae];(with_reducible exact oq1 ‹_› (by decide))) qbe)
 refine⟨(((((σ.new .tup (t3 b)).new .tup t45).new .tup t45).set (.dict (b+15)) (.dictI (qbd n (.bytes ((x).take p++oct.drop p)) kvs))).new .tup t15).new .tup qbe,?_,BB.mono (by(with_reducible exact oq3 (by decide))),((((((Go.newTup (t3 b)).trans (Go.newTup t45)).trans (Go.newTup t45)).trans (Go.bookSet (by simp [Loc.n]) (by simp [Loc.n]))).trans (Go.newTup t15)).trans (Go.newTup qbe))⟩
 rw [qbb];simp(decide:=true) [-String.reduceEq,-String.reduceNe,-BEq.rfl,l0,ints?,qa9,sd,ht,qbh,t3,t45,t15,qbe,B.side,B.counts,B.kept,hs,hg1,qa5,hh,qa7,hn,hmem,ho1,hx1,hxo,hkg,hnb,hnb2,hk1,hk2]
theorem due5h (B:BR σ b most bl T H ids sh kp c0 c1 c2) (hlt:b+18≤σ.next) (ht:σ.heap (.tup t)=some (qbh 5 n p oct)) (hn:n∈H) (hh:σ.heap (.list hL)=some (.list (H.map fun n:Nat=>V.int n))) (hx:sh n=some x) (hol:oct.length≤64) (hxl:(x).length≤64) (hxo:((x).take p).length+(oct.drop p).length≤64) (hnb:n<bl) (hTb:T≤1000):
  ∃σ',qag Pm (d+1) (.f "_law_due") [sd b,.ref (.tup t),.ref (.list hL),.int bt] σ=some (.bytes x,σ')∧BR σ' b most bl (T+2) H ids (fup sh n (some ((x).take p++oct.drop p))) (fup kp n ((x).take p++oct.drop p)) c0 c1 (c2+1)∧Go (qdf b) (qdf b) σ σ':=by
 refine qao B.shown fun kvs hs hT hk=>?_
 have hg1:=hk n
 rw [hx]at hg1;simp only [Option.map_some]at hg1;have hin:inV (.int n) (.ref (.list hL)) σ=some (decide (n∈H)):=by simp only [qew,hh,qjd,qa7,Option.map_some,qfi]
 have hmem:(∃a,a∈H∧(a:Int)=(n:Int)) ↔ n∈H:=⟨fun⟨a,h1,h2⟩=>(Int.ofNat.inj h2) ▸ h1,fun h=>⟨n,h,rfl⟩⟩
 have ho1:oct.length≤1000:=by(with_reducible exact Nat.le_trans ‹_› (by decide))
 have hx1:(x).length≤1000:=by(with_reducible exact Nat.le_trans ‹_› (by decide))
 simp only [List.length_take,List.length_drop]at hxo;have hkg:=qcp hnb kp
 have hnb2:(n:Int)<bl:=by(with_reducible exact Int.ofNat_lt.mpr ‹_›)
 have hk1:kvs.length≤100000:=by(with_reducible exact Nat.le_trans ‹_› (Nat.le_trans ‹_› (by decide)))
 have hk2: ∀y:V,(qbd n y kvs).length≤100000:=fun y=>Nat.le_trans (qa0 ..) (by lia)
 have BB:=((((((((B.newTup hlt (t3 b)).newTup (by simp [qaf,qae];(with_reducible exact oq1 ‹_› (by decide))) t45).newTup (by simp [qaf,qae];(with_reducible exact oq1 ‹_› (by decide))) t45).setShown hT hk n ((x).take p++oct.drop p)).newTup (by simp [qaf,qae];(with_reducible exact oq1 ‹_› (by decide))) t15).setCounts c0 c1 (c2+1)).setKept n ((x).take p++oct.drop p)).newTup (by simp [qaf,qae];(with_reducible exact oq1 ‹_› (by decide))) qbe)
 refine⟨(((((((σ.new .tup (t3 b)).new .tup t45).new .tup t45).set (.dict (b+15)) (.dictI (qbd n (.bytes ((x).take p++oct.drop p)) kvs))).new .tup t15).set (.list (b+16)) (.list [.int ((c0:Nat):Int),.int ((c1:Nat):Int),.int (((c2+1):Nat):Int)])).set (.list (b+12)) (.list (((List.range bl).map fun n=>V.bytes (kp n)).set n (.bytes ((x).take p++oct.drop p))))).new .tup qbe,?_,BB.mono (by(with_reducible exact oq3 (by decide))),((((((((Go.newTup (t3 b)).trans (Go.newTup t45)).trans (Go.newTup t45)).trans (Go.bookSet (by simp [Loc.n]) (by simp [Loc.n]))).trans (Go.newTup t15)).trans (Go.bookSet (by simp [Loc.n]) (by simp [Loc.n]))).trans (Go.bookSet (by simp [Loc.n]) (by simp [Loc.n]))).trans (Go.newTup qbe))⟩
 rw [qbb];simp(decide:=true) [-String.reduceEq,-String.reduceNe,-BEq.rfl,l0,ints?,qa9,sd,ht,qbh,t3,t45,t15,qbe,B.side,B.counts,B.kept,hs,hg1,qa5,hh,qa7,hn,hmem,ho1,hx1,hxo,hkg,hnb,hnb2,hk1,hk2]
end
end Mine.B
end
noncomputable section
namespace Mine.B
noncomputable def Lr (H:List Nat):List (Option Nat)→List Nat
 | []=> []
 |none::_=> []
 |some n::r=>if n∈H then Lr H r else n::(Lr H r).filter fun x=>x≠n
theorem qv5 (H:List Nat): ∀Q:List (Option Nat),(Lr H Q).Nodup
 | []=> .nil
 |none::_=> .nil
 |some n::r=>by
  unfold Lr;split
  ·exact qv5 H r
  ·exact List.nodup_cons.mpr ⟨fun h=>by simpa using(List.mem_filter.mp h).2,(qv5 H r).sublist List.filter_sublist⟩
theorem qm2 {H H2:List Nat} {n:Nat} (h: ∀x,x∈H2 ↔ x∈H∨x=n): ∀Q:List (Option Nat),Lr H2 Q=(Lr H Q).filter fun x=>x≠n
 | []=>rfl
 |none::_=>rfl
 |some m::r=>by
  unfold Lr;rw [qm2 h r];by_cases hm:m∈H
  ·rw [if_pos hm,if_pos ((h m).mpr (.inl hm))]
  ·by_cases e:m=n
   ·subst e;rw [if_neg hm,if_pos ((h m).mpr (.inr rfl)),List.filter_cons_of_neg (by simp),List.filter_filter];congr 1
    funext x
    simp
   ·have:m∉H2:=fun q=>((h m).mp q).elim hm e
    rw [if_neg hm,if_neg this,List.filter_cons_of_pos (by simpa using e),List.filter_filter,List.filter_filter];congr 2
    funext x
    exact Bool.and_comm ..
noncomputable def btw (H:List Nat) (n:Nat):List (Option Nat)→List Nat→Nat
 | [],_=>99
 |none::_,_=>99
 |some m::r,acc=>if m=n then H.length+acc.length else if m∈H∨m∈acc then btw H n r acc else btw H n r (acc++ [m])
theorem qh6 {H:List Nat} {n:Nat} (hn:n∉H): ∀(Q:List (Option Nat)) (acc:List Nat) (j:Nat),n∉acc→H.length+acc.length+j≤99→(btw H n Q acc<H.length+acc.length+j ↔ n∈((Lr H Q).filter fun x=>x∉acc).take j)
 | [],acc,j,ha,hj=>by unfold btw Lr;simp;(with_reducible assumption)
 |none::_,acc,j,ha,hj=>by unfold btw Lr;simp;(with_reducible assumption)
 |some m::r,acc,j,ha,hj=>by
  unfold btw Lr;by_cases e:m=n
  ·subst e;rw [if_pos rfl,if_neg hn,List.filter_cons_of_pos (by simpa using ha)];cases j with
   |zero=>simp
   |succ j=>simp
  ·rw [if_neg e];by_cases hm:m∈H
   ·rw [if_pos (.inl hm),if_pos hm];exact qh6 hn r acc j ha hj
   ·rw [if_neg hm];by_cases hma:m∈acc
    ·rw [if_pos (.inr hma),List.filter_cons_of_neg (by simpa using hma),List.filter_filter];rw [qh6 hn r acc j ha hj];have:(fun x=>decide (x∉acc)&&decide (x≠m))=fun x=>decide (x∉acc):=by
      funext x
      by_cases q:x=m
      ·subst q;simp [hma]
      ·simp [q]
     rw [this]
    ·have hor: ¬(m∈H∨m∈acc):=fun q=>q.elim hm hma
     rw [if_neg hor,List.filter_cons_of_pos (by simpa using hma),List.filter_filter];have hf:(fun x=>decide (x∉acc)&&decide (x≠m))=fun x=>decide (x∉acc++ [m]):=by
      funext x
      simp
     rw [hf];have hn2:n∉acc++ [m]:=by simp;exact⟨ha,fun q=>e q.symm⟩
     have hlen:H.length+(acc++ [m]).length=H.length+acc.length+1:=by simp;lia
     cases j with
     |zero=>
      have:=qh6 hn r (acc++ [m]) 0 hn2
      by_cases hb:H.length+(acc++ [m]).length+0≤99
      ·have:=this hb
       simp at this ⊢
       lia
      ·have key: ∀(Q:List (Option Nat)) (acc:List Nat),99≤H.length+acc.length→99≤btw H n Q acc:=by
        intro Q
        induction Q with
        |nil=>intro acc _;exact Nat.le_refl _
        |cons o r ih=>
         intro acc h;cases o with
         |none=>exact Nat.le_refl _
         |some k=>
          unfold btw;split
          ·exact h
          ·split
           ·exact ih acc h
           ·exact ih _ (by simp;lia)
       have:=key r (acc++ [m]) (by lia)
       simp
       lia
     |succ j=>
      have:=qh6 hn r (acc++ [m]) j hn2 (by lia)
      rw [hlen,show H.length+acc.length+1+j=H.length+acc.length+(j+1) by lia]at this;rw [this,List.take_succ_cons,List.mem_cons];exact⟨.inr,fun q=>q.resolve_left fun z=>e z.symm⟩
theorem btw_ok {H:List Nat} {n most:Nat} {Q:List (Option Nat)} (hn:n∉H) (h1:H.length≤most) (h2:most≤99):btw H n Q []<most ↔ n∈(Lr H Q).take (most- H.length):=by
 have:=qh6 hn Q [] (most- H.length) (by simp) (by rw [List.length_nil,Nat.add_zero,Nat.add_sub_of_le h1];exact h2)
 rw [show H.length+([]:List Nat).length+(most- H.length)=most from Nat.add_sub_of_le h1]at this;rw [this,List.filter_eq_self.mpr (fun x _=>by simp)]
theorem qe6 {n:Nat}: ∀{A:List Nat} {m:Nat},A.Nodup→n∈A.take m→(A.take m).filter (fun x=>x≠n)=(A.filter fun x=>x≠n).take (m- 1)
 | [],m,_,h=>by simp at h
 |a::A,0,_,h=>by simp at h
 |a::A,m+1,hnd,h=>by
  refine qa1 (List.nodup_cons.mp hnd) fun h1 h2=>?_
  rw [List.take_succ_cons]at h ⊢;by_cases e:a=n
  ·subst e;have hno: ∀{B:List Nat},a∉B→B.filter (fun x=>x≠a)=B:=fun hB=>List.filter_eq_self.mpr fun x hx=>by simpa using fun q:x=a=>hB (q ▸ hx)
   rw [List.filter_cons_of_neg (by simp),List.filter_cons_of_neg (by simp),hno h1,hno fun q=>h1 (List.mem_of_mem_take q)];simp
  ·have hm:n∈A.take m:=(List.mem_cons.mp h).resolve_left fun q=>e q.symm
   rw [List.filter_cons_of_pos (by simpa using e),List.filter_cons_of_pos (by simpa using e),qe6 h2 hm];cases m with
   |zero=>simp at hm
   |succ m=>simp
theorem qdk {n:Nat}: ∀{A:List Nat} {m k:Nat},n∉A.take m→k≤m→(A.filter fun x=>x≠n).take k=A.take k
 | [],m,k,_,_=>by simp
 |a::A,0,k,_,h=>by simp at h;subst h;simp
 |a::A,m+1,0,h,hk=>by simp
 |a::A,m+1,k+1,h,hk=>by
  rw [List.take_succ_cons]at h;have hne:a≠n:=fun q=>h (by rw [q];exact .head _)
  rw [List.filter_cons_of_pos (by simpa using hne),List.take_succ_cons,List.take_succ_cons,qdk (m:=m) (fun q=>h (.tail _ q)) (by lia)]
theorem qep: ∀(kn:List Nat) (p:Nat→Bool),kn.length=(kn.filter p).length+(kn.filter fun x=> !p x).length
 | [],_=>rfl
 |x::r,p=>by
  have:=qep r p
  cases h:p x<;>simp [h]<;>lia
theorem qnp {H kn:List Nat} (h1:H.Nodup) (h2:kn.Nodup) (h3: ∀n∈H,n∈kn):(kn.filter fun x=>x∈H).length=H.length:=by
 have hp:(kn.filter fun x=>decide (x∈H)).Perm H:=by
  rw [List.perm_ext_iff_of_nodup (h2.sublist List.filter_sublist) h1];intro a;rw [List.mem_filter];simp only [decide_eq_true_eq];exact⟨fun q=>q.2,fun q=>⟨h3 a q,q⟩⟩
 exact hp.length_eq
theorem lru {H kn:List Nat} {hold:Nat→Nat} {most n:Nat} {Q:List (Option Nat)} (hH:H.Nodup) (hk:kn.Nodup) (hs: ∀x∈H,x∈kn) (hhold: ∀x∈kn,hold x=if x∈H then 1 else 0)
  (hf:(kn.filter fun x=>x∉H)=((Lr H Q).take (most- H.length)).reverse) (hn:n∉H) (hroom:H.length<most) (hle:kn.length≤most):
  ((qeo kn hold most n).filter fun x=>decide (x∉H)&&decide (x≠n))=(((Lr H Q).filter fun x=>x≠n).take (most- H.length- 1)).reverse:=by
 have hnd:=qv5 H Q
 have hmem:n∈kn ↔ n∈(Lr H Q).take (most- H.length):=by
  rw [show n∈(Lr H Q).take (most- H.length) ↔ n∈((Lr H Q).take (most- H.length)).reverse from List.mem_reverse.symm,←hf,List.mem_filter];exact⟨fun q=>⟨q,by simpa using hn⟩,fun q=>q.1⟩
 have hlen:kn.length=H.length+((Lr H Q).take (most- H.length)).length:=by
  rw [qep kn fun x=>decide (x∈H),qnp hH hk hs];have:(kn.filter fun x=> !decide (x∈H))=kn.filter fun x=>decide (x∉H):=by congr 1;funext x;simp
  rw [this,hf,List.length_reverse]
 have hff: ∀l:List Nat,(l.filter fun x=>decide (x∉H)&&decide (x≠n))=(l.filter fun x=>x∉H).filter fun x=>x≠n:=fun l=>by
  rw [List.filter_filter];congr 1
  funext x
  exact Bool.and_comm ..
 unfold qeo;by_cases h1:n∈kn
 ·rw [if_pos h1,hff,hf,List.filter_reverse,qe6 hnd (hmem.mp h1)]
 ·have h1':=fun q=>h1 (hmem.mpr q)
  have hout:n∉kn.filter fun x=>x∉H:=fun q=>h1 (List.mem_filter.mp q).1
  have hno: ∀{B:List Nat},n∉B→B.filter (fun x=>x≠n)=B:=fun hB=>List.filter_eq_self.mpr fun x hx=>by simpa using fun q:x=n=>hB (q ▸ hx)
  have htail:([n].filter fun x=>decide (x∉H)&&decide (x≠n))= []:=by simp
  rw [if_neg h1];by_cases h2:kn.length<most
  ·rw [if_pos h2,List.filter_append,htail,List.append_nil,hff,hno hout,hf,qdk h1' (by(with_reducible exact Nat.sub_le _ _))];congr 1
   have hshort:((Lr H Q).take (most- H.length)).length<most- H.length:=Nat.lt_sub_of_add_lt (by rw [Nat.add_comm,←hlen];exact h2)
   rw [List.length_take]at hshort;rw [List.take_of_length_le (Nat.le_of_lt (oqi hshort)),List.take_of_length_le (Nat.le_sub_one_of_lt (oqi hshort))]
  ·rw [if_neg h2,List.filter_append,htail,List.append_nil,hff];have hfull:((Lr H Q).take (most- H.length)).length=most- H.length:=Nat.eq_sub_of_add_eq ((Nat.add_comm _ _).trans (hlen.symm.trans (Nat.le_antisymm hle (Nat.not_lt.mp h2))))
   have hne:(kn.filter fun x=>x∉H)≠ []:=by
    rw [hf];intro q;have:=congrArg List.length q
    rw [List.length_reverse,hfull]at this;simp at this
    lia
   have her:((kn.eraseP fun m=>hold m=0).filter fun x=>x∉H)=(kn.filter fun x=>x∉H).tail:=by
    clear hf hnd hmem hlen hle h1 h1' hout h2 hfull hne hs hk
    induction kn with
    |nil=>rfl
    |cons a r ih=>
     have ha:=hhold a (.head _)
     by_cases q:a∈H
     ·rw [if_pos q]at ha;rw [List.eraseP_cons_of_neg (by simp [ha]),List.filter_cons_of_neg (by simpa using q),List.filter_cons_of_neg (by simpa using q)];exact ih fun x hx=>hhold x (.tail _ hx)
     ·rw [if_neg q]at ha;rw [List.eraseP_cons_of_pos (by simp [ha]),List.filter_cons_of_pos (by simpa using q),List.tail_cons]
   rw [her,hno (fun q=>hout (List.mem_of_mem_tail q)),hf,qdk h1' (by(with_reducible exact Nat.sub_le _ _)),List.tail_reverse];congr 1
   rw [List.dropLast_eq_take,hfull,List.take_take,Nat.min_eq_left (by(with_reducible exact Nat.sub_le _ _))]
end Mine.B
end
noncomputable section
namespace Mine.B
noncomputable def side (O:Nat→Prop) (b:Nat):Nat→Prop:=fun k=>O k∨qdf b k
structure SI (σ:St) (O:Nat→Prop) (b most bl sz T:Nat) (Q:List (Option Nat)) (H:List Nat) (g:G) (sh:Nat→Option (List UInt8)):Prop where
 cr:CR σ O b most bl sz T g
 br:BR σ b most bl T H g.ids sh g.lat g.hits g.rd g.wr
 nb: ∀k,qdf b k→ ¬O k
 lt:b+18≤σ.next
 hold: ∀n∈g.kn,g.hold n=if n∈H then 1 else 0
 hkn: ∀n∈H,n∈g.kn
 hnd:H.Nodup
 hlen:H.length≤most
 shd: ∀n∈g.kn,sh n=some (g.dat n)
 free:(g.kn.filter fun x=>x∉H)=((Lr H Q).take (most- H.length)).reverse
theorem Go.side {O O':Nat→Prop} {b:Nat} {σ σ':St} (g:Go O O' σ σ'):Go (Mine.B.side O b) (Mine.B.side O' b) σ σ':=
 ⟨g.le,fun l h1 h2=>g.eq l h1 fun q=>h2 (.inl q),fun k hk=>hk.elim (fun q=>(g.own k q).imp .inl id) fun q=> .inl (.inr q)⟩
theorem Go.bookSide {O:Nat→Prop} {b:Nat} {σ σ':St} (g:Go (qdf b) (qdf b) σ σ'):Go (Mine.B.side O b) (Mine.B.side O b) σ σ':=
 ⟨g.le,fun l h1 h2=>g.eq l h1 fun q=>h2 (.inr q),fun k hk=> .inl hk⟩
theorem qq4 {H:List Nat} {n:Nat} {r:List (Option Nat)} (h:n∉H):Lr H (some n::r)=n::(Lr H r).filter fun x=>x≠n:=by rw [Lr,if_neg h]
section
variable {σ σ1 σ2:St} {O O2:Nat→Prop} {b most bl sz T T2 n:Nat} {Q:List (Option Nat)} {H:List Nat} {g g2:G} {sh sh2:Nat→Option (List UInt8)}
theorem CR.go (c:CR σ O b most bl sz T g) (h:Go (qdf b) (qdf b) σ σ2) (nb: ∀k,qdf b k→ ¬O k):CR σ2 O b most bl sz T g:=
 c.frame h.le fun l hl=>h.eq l (c.lt _ hl) fun q=>nb _ q hl
theorem BR.ids {ids ids':Nat→Nat} {kp:Nat→List UInt8} {c0 c1 c2:Nat} (B:BR σ b most bl T H ids sh kp c0 c1 c2) (h: ∀m∈H,ids' m=ids m):BR σ b most bl T H ids' sh kp c0 c1 c2:=
 {B with hands:=B.hands.imp fun kvs q=>⟨q.1,q.2.1,fun m=>by
   rw [q.2.2 m];by_cases hm:m∈H
   ·rw [if_pos hm,if_pos hm,h m hm]
   ·rw [if_neg hm,if_neg hm]⟩}
theorem qg6 {O':Nat→Prop} (h:Go O O' σ σ2) (nb: ∀k,qdf b k→ ¬O k) (lt:b+18≤σ.next): ∀k,qdf b k→ ¬O' k:=fun k hk q=>
 (h.own k q).elim (nb k hk) fun z=>absurd hk.2 (Nat.not_lt.mpr (Nat.le_trans lt z))
theorem ql1 {kn:List Nat} {hold:Nat→Nat} {x:Nat} (h:x∈qeo kn hold most n):x∈kn∨x=n:=by
 unfold qeo at h;split at h
 ·exact .inl h
 ·split at h
  ·exact(List.mem_append.mp h).imp id List.mem_singleton.mp
  ·exact(List.mem_append.mp h).imp List.mem_of_mem_eraseP List.mem_singleton.mp
theorem qjh {kn:List Nat} {hold:Nat→Nat} {x:Nat} (h:x∈kn) (h0:hold x≠0):x∈qeo kn hold most n:=by
 unfold qeo;split
 ·exact h
 ·split
  ·exact List.mem_append_left _ h
  ·exact List.mem_append_left _ ((List.mem_eraseP_of_neg (by simpa using h0)).mpr h)
theorem qji {kn:List Nat} {hold:Nat→Nat}:n∈qeo kn hold most n:=by
 unfold qeo;split
 ·assumption
 ·split<;>simp
theorem SI.space (S:SI σ O b most bl sz T Q H g sh) (hr:H.length<most):n∈g.kn∨g.kn.length<most∨ ∃m∈g.kn,g.hold m=0:=by
 by_cases h:g.kn.length<most
 ·exact .inr (.inl h)
 ·refine .inr (.inr ?_)
  have h1:=qnp S.hnd S.cr.nd S.hkn
  have h2:=qep g.kn fun x=>decide (x∈H)
  have h3:(g.kn.filter fun x=> !decide (x∈H))≠ []:=fun q=>by rw [q,h1]at h2;simp at h2;lia
  refine qaj (List.exists_mem_of_ne_nil _ h3) fun m hm=>?_
  refine qa1 (List.mem_filter.mp hm) fun h4 h5=>?_
  have h5:m∉H:=by simpa using h5
  exact⟨m,h4,by rw [S.hold m h4,if_neg h5]⟩
theorem SI.found (S:SI σ O b most bl sz T Q H g sh) (hn:n∉H) (hm:most≤99):btw H n Q []<most ↔ n∈g.kn:=by
 rw [btw_ok hn S.hlen hm,show n∈(Lr H Q).take (most- H.length) ↔ n∈((Lr H Q).take (most- H.length)).reverse from List.mem_reverse.symm,←S.free,List.mem_filter];exact⟨fun q=>q.1,fun q=>⟨q,by simpa using hn⟩⟩
theorem SI.touch (S:SI σ O b most bl sz T Q H g sh) (hn:n∉H) (hr:H.length<most) (hcr:CR σ2 O2 b most bl sz T2 g2) (hbr:BR σ2 b most bl T2 H g.ids sh2 g2.lat g2.hits g2.rd g2.wr)
  (hkn:g2.kn=(qeo g.kn g.hold most n).erase n++ [n]) (hids: ∀m,m≠n→g2.ids m=g.ids m) (hh: ∀m,m≠n→g2.hold m=g.hold m) (hhn:g2.hold n=0) (hd: ∀m,m≠n→g2.dat m=g.dat m)
  (hsh: ∀m,m≠n→sh2 m=sh m) (hshn:sh2 n=some (g2.dat n)) (nb: ∀k,qdf b k→ ¬O2 k) (lt:b+18≤σ2.next):SI σ2 O2 b most bl sz T2 (some n::Q) H g2 sh2:=by
 have hin: ∀x∈g2.kn,x≠n→x∈g.kn:=fun x hx hne=>by
  rw [hkn]at hx;rcases List.mem_append.mp hx with q|q
  ·exact(ql1 (List.mem_of_mem_erase q)).resolve_right hne
  ·exact absurd (List.mem_singleton.mp q) hne
 have hknd:(qeo g.kn g.hold most n).Nodup:=by
  have:=hcr.nd
  rw [hkn]at this;exact((List.perm_append_comm).trans (List.perm_cons_erase qji).symm).nodup_iff.mp this
 refine⟨hcr,hbr.ids fun m hm=>hids m fun q=>hn (q ▸ hm),nb,lt,fun x hx=>?_,fun x hx=>?_,S.hnd,S.hlen,fun x hx=>?_,?_⟩
 ·by_cases e:x=n
  ·subst e;rw [hhn,if_neg hn]
  ·rw [hh x e,S.hold x (hin x hx e)]
 ·have hne:x≠n:=fun q=>hn (q ▸ hx)
  rw [hkn];exact List.mem_append_left _ ((List.mem_erase_of_ne hne).mpr (qjh (S.hkn x hx) (by rw [S.hold x (S.hkn x hx),if_pos hx];decide)))
 ·by_cases e:x=n
  ·subst e;exact hshn
  ·rw [hsh x e,hd x e,S.shd x (hin x hx e)]
 ·have:=lru S.hnd S.cr.nd S.hkn S.hold S.free hn hr S.cr.knm
  rw [hkn,List.filter_append,hknd.erase_eq_filter,List.filter_filter];have e1:([n].filter fun x=>decide (x∉H))= [n]:=by simp [hn]
  rw [e1];have e2:(fun a=>decide (a∉H)&&(a !=n))=fun x=>decide (x∉H)&&decide (x≠n):=by
   funext x;congr 1;by_cases q:x=n<;>simp [q]
  rw [e2,this];obtain⟨k,hk⟩: ∃k,most- H.length=k+1:=⟨most- H.length- 1,oqj hr⟩
  rw [qq4 hn,hk,List.take_succ_cons,List.reverse_cons];rfl
theorem SI.take (S:SI σ O b most bl sz T Q H g sh) (hn:n∉H) (hr:H.length<most) (hcr:CR σ2 O2 b most bl sz T2 g2) (hbr:BR σ2 b most bl T2 (H++ [n]) g2.ids sh2 g2.lat g2.hits g2.rd g2.wr)
  (hkn:g2.kn=qeo g.kn g.hold most n) (hh: ∀m,m≠n→g2.hold m=g.hold m) (hhn:g2.hold n=1) (hd: ∀m,m≠n→g2.dat m=g.dat m)
  (hsh: ∀m,m≠n→sh2 m=sh m) (hshn:sh2 n=some (g2.dat n)) (nb: ∀k,qdf b k→ ¬O2 k) (lt:b+18≤σ2.next):SI σ2 O2 b most bl sz T2 Q (H++ [n]) g2 sh2:=by
 have hin: ∀x∈g2.kn,x≠n→x∈g.kn:=fun x hx hne=>by
  rw [hkn]at hx;exact(ql1 hx).resolve_right hne
 have hm2: ∀x,x∈H++ [n] ↔ x∈H∨x=n:=fun x=>by simp
 refine⟨hcr,hbr,nb,lt,fun x hx=>?_,fun x hx=>?_,?_,by simp;lia,fun x hx=>?_,?_⟩
 ·by_cases e:x=n
  ·subst e;rw [hhn,if_pos (by simp)]
  ·rw [hh x e,S.hold x (hin x hx e)];by_cases q:x∈H
   ·rw [if_pos q,if_pos ((hm2 x).mpr (.inl q))]
   ·rw [if_neg q,if_neg fun z=>((hm2 x).mp z).elim q e]
 ·rw [hkn];rcases(hm2 x).mp hx with q|rfl
  ·exact qjh (S.hkn x q) (by rw [S.hold x (S.hkn x q),if_pos q];decide)
  ·exact qji
 ·rw [List.nodup_append];exact⟨S.hnd,by simp,fun x hx y hy q=>hn (by rw [←List.mem_singleton.mp hy,←q];exact hx)⟩
 ·by_cases e:x=n
  ·subst e;exact hshn
  ·rw [hsh x e,hd x e,S.shd x (hin x hx e)]
 ·have:=lru S.hnd S.cr.nd S.hkn S.hold S.free hn hr S.cr.knm
  have e2:(fun x=>decide (x∉H++ [n]))=fun x=>decide (x∉H)&&decide (x≠n):=by
   funext x;simp
  rw [hkn,e2,this,qm2 hm2];congr 2
  simp
  lia
theorem SI.drop (S:SI σ O b most bl sz T Q H g sh) (hn:n∈H) (hcr:CR σ2 O2 b most bl sz T2 g2) (hbr:BR σ2 b most bl T2 (H.erase n) g2.ids sh g2.lat g2.hits g2.rd g2.wr)
  (hkn:g2.kn=g.kn.erase n++ [n]) (hh: ∀m,m≠n→g2.hold m=g.hold m) (hhn:g2.hold n=0) (hd:g2.dat=g.dat)
  (nb: ∀k,qdf b k→ ¬O2 k) (lt:b+18≤σ2.next):SI σ2 O2 b most bl sz T2 (some n::Q) (H.erase n) g2 sh:=by
 have hm: ∀x,x∈g2.kn ↔ x∈g.kn:=fun x=>by
  rw [hkn];exact((List.perm_append_comm).trans (List.perm_cons_erase (S.hkn n hn)).symm).mem_iff
 have hno:n∉H.erase n:=fun q=>(S.hnd.mem_erase_iff.mp q).1 rfl
 have hm2: ∀x,x∈H ↔ x∈H.erase n∨x=n:=fun x=>by
  by_cases e:x=n
  ·subst e;simp [hn]
  ·rw [List.mem_erase_of_ne e];simp [e]
 have hl:(H.erase n).length+1=H.length:=by
  have:=List.length_erase_of_mem hn
  have:=List.length_pos_of_mem hn
  lia
 have hHl:=S.hlen
 refine⟨hcr,hbr,nb,lt,fun x hx=>?_,fun x hx=>(hm x).mpr (S.hkn x (List.mem_of_mem_erase hx)),S.hnd.erase n,by(with_reducible exact oq27 ‹_› ‹_›),fun x hx=>by rw [hd];exact S.shd x ((hm x).mp hx),?_⟩
 ·by_cases e:x=n
  ·subst e;rw [hhn,if_neg hno]
  ·rw [hh x e,S.hold x ((hm x).mp hx)];simp only [List.mem_erase_of_ne e]
 ·rw [hkn,List.filter_append,S.cr.nd.erase_eq_filter,List.filter_filter];have e1:([n].filter fun x=>decide (x∉H.erase n))= [n]:=by simp [hno]
  have e2:(fun a=>decide (a∉H.erase n)&&(a !=n))=fun x=>decide (x∉H):=by
   funext x
   by_cases q:x=n
   ·subst q;simp [hn]
   ·simp [q,List.mem_erase_of_ne q]
  rw [e1,e2,S.free];obtain⟨k,hk⟩: ∃k,most- (H.erase n).length=k+1:=⟨most- (H.erase n).length- 1,oqj (Nat.lt_of_lt_of_le (Nat.lt_of_succ_le (Nat.le_of_eq hl)) hHl)⟩
  have hk2:most- H.length=k:=oqk hl hk
  rw [qq4 hno,hk,hk2,List.take_succ_cons,List.reverse_cons,qm2 hm2]
theorem SI.forget (S:SI σ O b most bl sz T Q H g sh) (hcr:CR σ2 O b most bl sz T2 {g with kn:=g.kn.filter fun n=>g.hold n≠0}) (hbr:BR σ2 b most bl T2 H g.ids sh g.lat g.hits g.rd g.wr) (lt:b+18≤σ2.next):
  SI σ2 O b most bl sz T2 (none::Q) H {g with kn:=g.kn.filter fun n=>g.hold n≠0} sh:=by
 refine⟨hcr,hbr,S.nb,lt,fun x hx=>S.hold x (List.mem_filter.mp hx).1,fun x hx=>List.mem_filter.mpr ⟨S.hkn x hx,by rw [S.hold x (S.hkn x hx),if_pos hx];rfl⟩,S.hnd,S.hlen,fun x hx=>S.shd x (List.mem_filter.mp hx).1,?_⟩
 unfold Lr;simp only [List.take_nil,List.reverse_nil];refine List.filter_eq_nil_iff.mpr fun x hx=>?_
 refine qa1 (List.mem_filter.mp hx) fun h1 h2=>?_
 have h2:g.hold x≠0:=by simpa using h2
 rw [S.hold x h1]at h2;intro q;rw [if_neg (by simpa using q)]at h2;exact h2 rfl
theorem SI.keep (S:SI σ O b most bl sz T Q H g sh) (hcr:CR σ2 O b most bl sz T2 g2) (hbr:BR σ2 b most bl T2 H g.ids sh2 g2.lat g2.hits g2.rd g2.wr)
  (hkn:g2.kn=g.kn) (hids:g2.ids=g.ids) (hh:g2.hold=g.hold) (hsh: ∀x∈g.kn,sh2 x=some (g2.dat x)) (lt:b+18≤σ2.next):SI σ2 O b most bl sz T2 Q H g2 sh2:=
 ⟨hcr,hids ▸ hbr,S.nb,lt,fun x hx=>by rw [hh];exact S.hold x (hkn ▸ hx),fun x hx=>hkn ▸ S.hkn x hx,S.hnd,S.hlen,fun x hx=>hsh x (hkn ▸ hx),by rw [hkn];exact S.free⟩
end
end Mine.B
end
noncomputable section
namespace Mine.B
noncomputable def nH (way n:Nat) (H:List Nat):List Nat:=if way=2 then H++ [n]else if way=3 then H.erase n else H
noncomputable def nQ (way n:Nat) (H:List Nat) (Q:List (Option Nat)):List (Option Nat):=if way=7 then none::Q else if way<6∧n∉nH way n H then some n::Q else Q
noncomputable def bt (H:List Nat) (n:Nat) (Q:List (Option Nat)):Nat:=if n∈H then 0 else btw H n Q []
noncomputable def Turn (d:Nat) (σ:St) (O:Nat→Prop) (b most bl sz T way n p t hL:Nat) (H:List Nat) (Q:List (Option Nat)):Prop:=
 ∃v σ1 σ2 O2 g2 sh2,qag Pm (d+5) (.f "_law_done") [sd b,.ref (.tup t)] σ=some (v,σ1)∧qag Pm (d+5) (.f "_law_due") [sd b,.ref (.tup t),.ref (.list hL),.int (bt H n Q)] σ1=some (v,σ2)∧
  (v= .none∨ ∃bs,v= .bytes bs)∧SI σ2 O2 b most bl sz (T+10) (nQ way n H Q) (nH way n H) g2 sh2∧Go (side O b) (side O2 b) σ σ2
section
variable {d:Nat} {σ:St} {O:Nat→Prop} {b most bl sz T n p t hL:Nat} {Q:List (Option Nat)} {H:List Nat} {g:G} {sh:Nat→Option (List UInt8)} {oct:List UInt8}
structure At (σ:St) (O:Nat→Prop) (b most bl sz T way n p t hL:Nat) (oct:List UInt8) (H:List Nat) (Q:List (Option Nat)) (g:G) (sh:Nat→Option (List UInt8)):Prop where
 S:SI σ O b most bl sz T Q H g sh
 hm:most≤99
 hT:T≤800
 ht:σ.heap (.tup t)=some (qbh way n p oct)
 htO: ¬side O b t
 htl:t<σ.next
 hh:σ.heap (.list hL)=some (.list (H.map fun n:Nat=>V.int n))
 hhO: ¬side O b hL
 hhl:hL<σ.next
 hn:n<bl
 hp:p<sz
 ho:oct.length=sz
theorem At.tupAt {way:Nat} {σ1:St} {O1:Nat→Prop} (A:At σ O b most bl sz T way n p t hL oct H Q g sh) (G1:Go (side O b) (side O1 b) σ σ1):σ1.heap (.tup t)=some (qbh way n p oct):=(G1.eq (.tup t) A.htl A.htO).trans A.ht
theorem At.heldAt {way:Nat} {σ1:St} {O1:Nat→Prop} (A:At σ O b most bl sz T way n p t hL oct H Q g sh) (G1:Go (side O b) (side O1 b) σ σ1):σ1.heap (.list hL)=some (.list (H.map fun n:Nat=>V.int n)):=(G1.eq (.list hL) A.hhl A.hhO).trans A.hh
theorem qst (S:SI σ O b most bl sz T Q H g sh) (hn:n∉H):n∈g.kn→g.hold n=0:=fun h=>by rw [S.hold n h,if_neg hn]
theorem qsu (S:SI σ O b most bl sz T Q H g sh) (hn:n∈H):g.hold n=1:=by rw [S.hold n (S.hkn n hn),if_pos hn]
theorem Turn.of {way:Nat} {v:V} {σ1 σ2:St} {O2:Nat→Prop} {g2:G} {sh2:Nat→Option (List UInt8)} (hd:qag Pm (d+5) (.f "_law_done") [sd b,.ref (.tup t)] σ=some (v,σ1)) (hr:qag Pm (d+5) (.f "_law_due") [sd b,.ref (.tup t),.ref (.list hL),.int (bt H n Q)] σ1=some (v,σ2))
  (hv:v= .none∨ ∃bs,v= .bytes bs) (hS:SI σ2 O2 b most bl sz (T+10) (nQ way n H Q) (nH way n H) g2 sh2) (hG:Go (side O b) (side O2 b) σ σ2):Turn d σ O b most bl sz T way n p t hL H Q:=⟨_,_,_,_,_,_,hd,hr,hv,hS,hG⟩
theorem SI.touchE {σ2:St} {O2:Nat→Prop} {T1 T2:Nat} {g2:G} {sh2:Nat→Option (List UInt8)} {kp:Nat→List UInt8} {c0 c1 c2:Nat} (S:SI σ O b most bl sz T Q H g sh) (hn:n∉H) (hr:H.length<most) (hcr:CR σ2 O2 b most bl sz T2 g2) (hbr:BR σ2 b most bl T1 H g.ids sh2 kp c0 c1 c2) (hT:T1≤T2)
  (he:kp=g2.lat∧c0=g2.hits∧c1=g2.rd∧c2=g2.wr) (hkn:g2.kn=(qeo g.kn g.hold most n).erase n++ [n]) (hids: ∀m,m≠n→g2.ids m=g.ids m) (hh: ∀m,m≠n→g2.hold m=g.hold m) (hhn:g2.hold n=0) (hd: ∀m,m≠n→g2.dat m=g.dat m)
  (hsh: ∀m,m≠n→sh2 m=sh m) (hshn:sh2 n=some (g2.dat n)) (nb: ∀k,qdf b k→ ¬O2 k) (lt:b+18≤σ2.next):SI σ2 O2 b most bl sz T2 (some n::Q) H g2 sh2:=by
 refine ql4 he fun e0_0 e0_1 e0_2 e0_3=>?_;subst e0_0;subst e0_1;subst e0_2;subst e0_3
 exact S.touch hn hr hcr (hbr.mono hT) hkn hids hh hhn hd hsh hshn nb lt
theorem turn0f (A:At σ O b most bl sz T 0 n p t hL oct H Q g sh) (hn:n∉H) (hr:H.length<most):Turn d σ O b most bl sz T 0 n p t hL H Q:=by
 have S:=A.S
 have hT:=A.hT
 have ct:CR (σ.new .tup (two b)) O b most bl sz T g:=S.cr.newMore rfl
 have Bt:=S.br.newTup S.lt (two b)
 have lt1:b+18≤(σ.new .tup (two b)).next:=Nat.le_succ_of_le S.lt
 refine qq0 (d:=d) ct A.hn (qst S hn) (S.space hr) (by(with_reducible exact Nat.le_trans ‹_› (by decide))) fun σ1 O1 i q r1 c1 g1=>?_
 have hd:=done0 S.cr S.br A.ht r1
 have G1:Go (side O b) (side O1 b) σ σ1:=((Go.newTup (two b)).trans g1).side
 have B1:=Bt.go g1 (fun k h1 h2=>S.nb k ⟨h1,h2⟩) lt1
 have nb1:=qg6 g1 S.nb lt1
 have lt2:b+18≤σ1.next:=Nat.le_trans lt1 g1.le
 have hbt:bt H n Q=btw H n Q []:=if_neg hn
 by_cases hk:n∈g.kn
 ·refine qao (due0 (d:=d+4) (hL:=hL) (bt:=bt H n Q) B1 lt2 (A.tupAt G1) (by rw [hbt];exact(S.found hn A.hm).mpr hk) (S.shd n hk) (by(with_reducible exact Nat.le_trans ‹_› (by decide)))) fun σ2 r2 B2 g2=>?_
  rw [if_pos hk]at hd;have e1:nH 0 n H=H:=rfl
  have e2:nQ 0 n H Q=some n::Q:=by simp [nQ,e1,hn]
  have fin:=S.touchE (T2:=T+10) hn hr ((c1.go g2 nb1).mono (by(with_reducible exact oq3 (by decide)))) B2 (by(with_reducible exact oq3 (by decide))) (by refine⟨?_,?_,?_,?_⟩<;>simp only [ql0,qd4,if_pos hk]) rfl (fun m h=>qak _ _ h) (fun m h=>(qak _ _ h).trans (qak _ _ h)) (qat ..) (fun m h=>qak _ _ h) (fun m h=>rfl) (by show _=some (fup g.dat n _ n);rw [qat,if_pos hk,S.shd n hk]) nb1 (Nat.le_trans lt2 g2.le)
  exact Turn.of hd r2 (.inr ⟨_,rfl⟩) (by rw [e1,e2];exact fin) (G1.trans g2.bookSide)
 ·refine qao (due0m (d:=d+4) (hL:=hL) (bt:=bt H n Q) B1 lt2 (A.tupAt G1) (by rw [hbt];exact fun q=>hk ((S.found hn A.hm).mp q)) A.hn (by(with_reducible exact Nat.le_trans ‹_› (by decide)))) fun σ2 r2 B2 g2=>?_
  rw [if_neg hk]at hd;have e1:nH 0 n H=H:=rfl
  have e2:nQ 0 n H Q=some n::Q:=by simp [nQ,e1,hn]
  have fin:=S.touchE (T2:=T+10) hn hr ((c1.go g2 nb1).mono (by(with_reducible exact oq3 (by decide)))) B2 (by(with_reducible exact oq3 (by decide))) (by refine⟨?_,?_,?_,?_⟩<;>simp only [ql0,qd4,if_neg hk]) rfl (fun m h=>qak _ _ h) (fun m h=>(qak _ _ h).trans (qak _ _ h)) (qat ..) (fun m h=>qak _ _ h) (fun m h=>qak _ _ h) (by show _=some (fup g.dat n _ n);rw [qat,qat,if_neg hk]) nb1 (Nat.le_trans lt2 g2.le)
  exact Turn.of hd r2 (.inr ⟨_,rfl⟩) (by rw [e1,e2];exact fin) (G1.trans g2.bookSide)
theorem turn1f (A:At σ O b most bl sz T 1 n p t hL oct H Q g sh) (hn:n∉H) (hr:H.length<most):Turn d σ O b most bl sz T 1 n p t hL H Q:=by
 have S:=A.S
 have hT:=A.hT
 have ct:CR (σ.new .tup (two b)) O b most bl sz T g:=S.cr.newMore rfl
 have Bt:=S.br.newTup S.lt (two b)
 have lt1:b+18≤(σ.new .tup (two b)).next:=Nat.le_succ_of_le S.lt
 refine qq2 (d:=d) ct A.hn A.ho (qst S hn) (S.space hr) (by(with_reducible exact Nat.le_trans ‹_› (by decide))) fun σ1 O1 i q r1 c1 g1=>?_
 have hd:=done1 S.cr S.br A.ht r1
 have G1:Go (side O b) (side O1 b) σ σ1:=((Go.newTup (two b)).trans g1).side
 have B1:=Bt.go g1 (fun k h1 h2=>S.nb k ⟨h1,h2⟩) lt1
 have nb1:=qg6 g1 S.nb lt1
 have lt2:b+18≤σ1.next:=Nat.le_trans lt1 g1.le
 have hbt:bt H n Q=btw H n Q []:=if_neg hn
 have e1:nH 1 n H=H:=rfl
 have e2:nQ 1 n H Q=some n::Q:=by simp [nQ,e1,hn]
 by_cases hk:n∈g.kn
 ·refine due1 (d:=d+4) (hL:=hL) (bt:=bt H n Q) B1 lt2 (A.tupAt G1) (by rw [hbt];exact(S.found hn A.hm).mpr hk) (S.shd n hk) A.hn (by(with_reducible exact Nat.le_trans ‹_› (by decide))) fun σ2 r2 B2 g2=>?_
  have fin:=S.touchE (T2:=T+10) hn hr ((c1.go g2 nb1).mono (by(with_reducible exact oq3 (by decide)))) B2 (by(with_reducible exact oq3 (by decide))) (by refine⟨?_,?_,?_,?_⟩<;>simp only [ql0,qd4,qir,qco,if_pos hk,qat]) rfl (fun m h=>qak _ _ h) (fun m h=>(qak _ _ h).trans (qak _ _ h)) (qat ..) (fun m h=>(qak _ _ h).trans (qak _ _ h)) (fun m h=>qak _ _ h) (by simp only [ql0,qd4,qir,qco,qat]) nb1 (Nat.le_trans lt2 g2.le)
  exact Turn.of hd r2 (.inl rfl) (by rw [e1,e2];exact fin) (G1.trans g2.bookSide)
 ·refine qao (due1m (d:=d+4) (hL:=hL) (bt:=bt H n Q) B1 lt2 (A.tupAt G1) (by rw [hbt];exact fun q=>hk ((S.found hn A.hm).mp q)) A.hn (by(with_reducible exact Nat.le_trans ‹_› (by decide)))) fun σ2 r2 B2 g2=>?_
  have fin:=S.touchE (T2:=T+10) hn hr ((c1.go g2 nb1).mono (by(with_reducible exact oq3 (by decide)))) B2 (by(with_reducible exact oq3 (by decide))) (by refine⟨?_,?_,?_,?_⟩<;>simp only [ql0,qd4,qir,qco,if_neg hk,qat]) rfl (fun m h=>qak _ _ h) (fun m h=>(qak _ _ h).trans (qak _ _ h)) (qat ..) (fun m h=>(qak _ _ h).trans (qak _ _ h)) (fun m h=>(qak _ _ h).trans (qak _ _ h)) (by simp only [ql0,qd4,qir,qco,qat]) nb1 (Nat.le_trans lt2 g2.le)
  exact Turn.of hd r2 (.inl rfl) (by rw [e1,e2];exact fin) (G1.trans g2.bookSide)
theorem qv6 {way:Nat} (hway:way=4∨way=5) (A:At σ O b most bl sz T way n p t hL oct H Q g sh) (hn:n∉H) (hr:H.length<most):Turn d σ O b most bl sz T way n p t hL H Q:=by
 have S:=A.S
 have hT:=A.hT
 have ct:CR (σ.new .tup (two b)) O b most bl sz T g:=S.cr.newMore rfl
 have Bt:=S.br.newTup S.lt (two b)
 have lt1:b+18≤(σ.new .tup (two b)).next:=Nat.le_succ_of_le S.lt
 have hsz:=S.cr.szl
 have ho64:oct.length≤64:=by have:=A.ho;(with_reducible exact qko ‹_› ‹_› (by decide))
 have hpo:p+(oct.drop p).length=sz:=by have:=A.ho;have:=A.hp;rw [List.length_drop];exact oqn A.ho A.hp
 refine qao S.br.hands fun kvs hh0 hhT hhg=>?_
 refine qg9 (d:=d+1) ct A.hn (qst S hn) (S.space hr) (by(with_reducible exact Nat.le_trans ‹_› (by decide))) fun σ2 O1 i q r2 c2 g2 hn2=>?_
 refine c2.put (d:=d+2) hn2 hpo fun σ3 r3 c3 g3=>?_
 have gx:Go O O1 (σ.new .tup (two b)) σ3:=g2.trans g3
 have hands3:σ3.heap (.dict (b+14))=some (.dictI kvs):=(gx.eq (.dict (b+14)) (by show b+14<_;(with_reducible exact qo6 ‹_› (by decide))) (S.nb _ ⟨by simp [Loc.n],by simp [Loc.n]⟩)).trans hh0
 rw [show i=(qd4 g most n i q).ids n from(qeb g most n i q).symm]at r2;have hdat:=qkk g most n i q
 have hlat:=S.cr.latl n A.hn
 have hlen:(if n∈g.kn then g.dat n else g.lat n).length=sz:=by
  split
  ·next h=>exact(S.cr.bufo n h).2.2.1
  ·exact hlat
 have hbt:bt H n Q=btw H n Q []:=if_neg hn
 have e1:nH way n H=H:=by rcases hway with rfl|rfl<;>rfl
 have e2:nQ way n H Q=some n::Q:=by rcases hway with rfl|rfl<;>simp [nQ,e1,hn]
 rcases hway with rfl|rfl
 ·refine qao (c3.letGo (d:=d+2) (n:=n) hn2 (qd3 g most n i q)) fun σ1 r4 c4 g4=>?_
  have hd:=done4f (d:=d) S.cr S.br A.ht hn ho64 r2 c2 hn2 hh0 hhg r3 c3 hands3 r4
  have g1:Go O O1 (σ.new .tup (two b)) σ1:=gx.trans g4
  have G1:Go (side O b) (side O1 b) σ σ1:=((Go.newTup (two b)).trans g1).side
  have B1:=Bt.go g1 (fun k h1 h2=>S.nb k ⟨h1,h2⟩) lt1
  have nb1:=qg6 g1 S.nb lt1
  have lt2:b+18≤σ1.next:=Nat.le_trans lt1 g1.le
  rw [hdat]at hd;by_cases hk:n∈g.kn
  ·rw [if_pos hk]at hd hlen;refine qao (due4 (d:=d+4) (hL:=hL) (bt:=bt H n Q) B1 lt2 (A.tupAt G1) hn (A.heldAt G1) (by rw [hbt];exact(S.found hn A.hm).mpr hk) (S.shd n hk) ho64 (by(with_reducible exact qko ‹_› ‹_› (by decide))) (by rw [List.length_take];exact oqf hpo hsz) A.hn (by(with_reducible exact Nat.le_trans ‹_› (by decide)))) fun σe re Be ge=>?_
   have fin:=S.touchE (T2:=T+10) hn hr ((c4.go ge nb1).mono (by(with_reducible exact oq3 (by decide)))) Be (by(with_reducible exact oq3 (by decide))) (by refine⟨?_,?_,?_,?_⟩<;>simp only [ql0,qd4,qir,qco,if_pos hk,qat]) rfl (fun m h=>qak _ _ h) (fun m h=>(qak _ _ h).trans (qak _ _ h)) (qat ..) (fun m h=>(qak _ _ h).trans (qak _ _ h)) (fun m h=>qak _ _ h) (by simp only [ql0,qd4,qir,qco,qat,if_pos hk]) nb1 (Nat.le_trans lt2 ge.le)
   exact Turn.of hd re (.inr ⟨_,rfl⟩) (by rw [e1,e2];exact fin) (G1.trans ge.bookSide)
  ·rw [if_neg hk]at hd hlen;refine qao (due4m (d:=d+4) (hL:=hL) (bt:=bt H n Q) B1 lt2 (A.tupAt G1) hn (A.heldAt G1) (by rw [hbt];exact fun q=>hk ((S.found hn A.hm).mp q)) ho64 (by(with_reducible exact qko ‹_› ‹_› (by decide))) (by rw [List.length_take];exact oqf hpo hsz) A.hn (by(with_reducible exact Nat.le_trans ‹_› (by decide)))) fun σe re Be ge=>?_
   have fin:=S.touchE (T2:=T+10) hn hr ((c4.go ge nb1).mono (by(with_reducible exact oq3 (by decide)))) Be (by(with_reducible exact oq3 (by decide))) (by refine⟨?_,?_,?_,?_⟩<;>simp only [ql0,qd4,qir,qco,if_neg hk,qat]) rfl (fun m h=>qak _ _ h) (fun m h=>(qak _ _ h).trans (qak _ _ h)) (qat ..) (fun m h=>(qak _ _ h).trans (qak _ _ h)) (fun m h=>(qak _ _ h).trans (qak _ _ h)) (by simp only [ql0,qd4,qir,qco,qat,if_neg hk]) nb1 (Nat.le_trans lt2 ge.le)
   exact Turn.of hd re (.inr ⟨_,rfl⟩) (by rw [e1,e2];exact fin) (G1.trans ge.bookSide)
 ·refine qao (c3.write (d:=d+1) (n:=n) (k:=0) hn2 (qd3 g most n i q) (by(with_reducible exact oq10 ‹_› (by decide)))) fun σ4 r4 c4 g4=>?_
  refine qao (c4.letGo (d:=d+2) (n:=n) hn2 (qd3 g most n i q)) fun σ1 r5 c5 g5=>?_
  have gy:Go O O1 (σ.new .tup (two b)) σ4:=gx.trans g4
  have hands4:σ4.heap (.dict (b+14))=some (.dictI kvs):=(gy.eq (.dict (b+14)) (by show b+14<_;(with_reducible exact qo6 ‹_› (by decide))) (S.nb _ ⟨by simp [Loc.n],by simp [Loc.n]⟩)).trans hh0
  have hd:=done5f (d:=d) S.cr S.br A.ht hn ho64 r2 c2 hn2 hh0 hhg r3 c3 r4 c4 hands4 r5
  have g1:Go O O1 (σ.new .tup (two b)) σ1:=gy.trans g5
  have G1:Go (side O b) (side O1 b) σ σ1:=((Go.newTup (two b)).trans g1).side
  have B1:=Bt.go g1 (fun k h1 h2=>S.nb k ⟨h1,h2⟩) lt1
  have nb1:=qg6 g1 S.nb lt1
  have lt2:b+18≤σ1.next:=Nat.le_trans lt1 g1.le
  rw [hdat]at hd;by_cases hk:n∈g.kn
  ·rw [if_pos hk]at hd hlen;refine qao (due5 (d:=d+4) (hL:=hL) (bt:=bt H n Q) B1 lt2 (A.tupAt G1) hn (A.heldAt G1) (by rw [hbt];exact(S.found hn A.hm).mpr hk) (S.shd n hk) ho64 (by(with_reducible exact qko ‹_› ‹_› (by decide))) (by rw [List.length_take];exact oqf hpo hsz) A.hn (by(with_reducible exact Nat.le_trans ‹_› (by decide)))) fun σe re Be ge=>?_
   have fin:=S.touchE (T2:=T+10) hn hr ((c5.go ge nb1).mono (by(with_reducible exact oq22 (by decide)))) Be (by(with_reducible exact oq3 (by decide))) (by refine⟨?_,?_,?_,?_⟩<;>simp only [ql0,qd4,qir,qco,if_pos hk,qat]) rfl (fun m h=>qak _ _ h) (fun m h=>(qak _ _ h).trans (qak _ _ h)) (qat ..) (fun m h=>(qak _ _ h).trans (qak _ _ h)) (fun m h=>qak _ _ h) (by simp only [ql0,qd4,qir,qco,qat,if_pos hk]) nb1 (Nat.le_trans lt2 ge.le)
   exact Turn.of hd re (.inr ⟨_,rfl⟩) (by rw [e1,e2];exact fin) (G1.trans ge.bookSide)
  ·rw [if_neg hk]at hd hlen;refine qao (due5m (d:=d+4) (hL:=hL) (bt:=bt H n Q) B1 lt2 (A.tupAt G1) hn (A.heldAt G1) (by rw [hbt];exact fun q=>hk ((S.found hn A.hm).mp q)) ho64 (by(with_reducible exact qko ‹_› ‹_› (by decide))) (by rw [List.length_take];exact oqf hpo hsz) A.hn (by(with_reducible exact Nat.le_trans ‹_› (by decide)))) fun σe re Be ge=>?_
   have fin:=S.touchE (T2:=T+10) hn hr ((c5.go ge nb1).mono (by(with_reducible exact oq22 (by decide)))) Be (by(with_reducible exact oq3 (by decide))) (by refine⟨?_,?_,?_,?_⟩<;>simp only [ql0,qd4,qir,qco,if_neg hk,qat]) rfl (fun m h=>qak _ _ h) (fun m h=>(qak _ _ h).trans (qak _ _ h)) (qat ..) (fun m h=>(qak _ _ h).trans (qak _ _ h)) (fun m h=>(qak _ _ h).trans (qak _ _ h)) (by simp only [ql0,qd4,qir,qco,qat,if_neg hk]) nb1 (Nat.le_trans lt2 ge.le)
   exact Turn.of hd re (.inr ⟨_,rfl⟩) (by rw [e1,e2];exact fin) (G1.trans ge.bookSide)
end
end Mine.B
end
noncomputable section
namespace Mine.B
section
variable {d:Nat} {σ:St} {O:Nat→Prop} {b most bl sz T n p t hL:Nat} {Q:List (Option Nat)} {H:List Nat} {g:G} {sh:Nat→Option (List UInt8)} {oct:List UInt8}
theorem SI.keepE {σ2:St} {T1 T2:Nat} {g2:G} {sh2:Nat→Option (List UInt8)} {kp:Nat→List UInt8} {c0 c1 c2:Nat} (S:SI σ O b most bl sz T Q H g sh) (hcr:CR σ2 O b most bl sz T2 g2) (hbr:BR σ2 b most bl T1 H g.ids sh2 kp c0 c1 c2) (hT:T1≤T2)
  (he:kp=g2.lat∧c0=g2.hits∧c1=g2.rd∧c2=g2.wr) (hkn:g2.kn=g.kn) (hids:g2.ids=g.ids) (hh:g2.hold=g.hold) (hsh: ∀x∈g.kn,sh2 x=some (g2.dat x)) (lt:b+18≤σ2.next):SI σ2 O b most bl sz T2 Q H g2 sh2:=by
 refine ql4 he fun e0_0 e0_1 e0_2 e0_3=>?_;subst e0_0;subst e0_1;subst e0_2;subst e0_3
 exact S.keep hcr (hbr.mono hT) hkn hids hh hsh lt
theorem turn2 (A:At σ O b most bl sz T 2 n p t hL oct H Q g sh) (hn:n∉H) (hr:H.length<most):Turn d σ O b most bl sz T 2 n p t hL H Q:=by
 have S:=A.S
 have hT:=A.hT
 have ct:CR (σ.new .tup (two b)) O b most bl sz T g:=S.cr.newMore rfl
 have Bt:=S.br.newTup S.lt (two b)
 have lt1:b+18≤(σ.new .tup (two b)).next:=Nat.le_succ_of_le S.lt
 refine qao S.br.hands fun kvs hh0 hhT hhg=>?_
 refine qg9 (d:=d+1) ct A.hn (qst S hn) (S.space hr) (by(with_reducible exact Nat.le_trans ‹_› (by decide))) fun σg O1 i q r1 c1 g1 hn2=>?_
 rw [show i=(qd4 g most n i q).ids n from(qeb g most n i q).symm]at r1;have handsg:σg.heap (.dict (b+14))=some (.dictI kvs):=(g1.eq (.dict (b+14)) (by show b+14<_;(with_reducible exact qo6 ‹_› (by decide))) (S.nb _ ⟨by simp [Loc.n],by simp [Loc.n]⟩)).trans hh0
 have hd:=done2 (d:=d) S.cr S.br A.ht hn r1 c1 hn2 hh0 handsg hhg (by(with_reducible exact Nat.le_trans ‹_› (Nat.le_trans ‹_› (by decide))))
 have Bg:=Bt.go g1 (fun k h1 h2=>S.nb k ⟨h1,h2⟩) lt1
 have nb1:=qg6 g1 S.nb lt1
 have ltg:b+18≤σg.next:=Nat.le_trans lt1 g1.le
 have gset:Go (qdf b) (qdf b) σg (σg.set (.dict (b+14)) (.dictI (qbd n (.ref (.inst .buffer ((qd4 g most n i q).ids n))) kvs))):=Go.bookSet (by simp [Loc.n]) (by simp [Loc.n])
 have hget: ∀m:Nat,qa8 m (qbd n (.ref (.inst .buffer ((qd4 g most n i q).ids n))) kvs)=if m∈H++ [n]then some (.ref (.inst .buffer ((qd4 g most n i q).ids m)))else none:=fun m=>by
  rw [qa5,hhg];by_cases e:m=n
  ·subst e;simp
  ·have: ¬(m:Int)=n:=by(with_reducible exact qo7 ‹_›)
   have e2:(qd4 g most n i q).ids m=g.ids m:=qak _ _ e
   simp [this,e,e2]
 have B1:=(Bg.mono (Nat.le_succ T)).setHands (H':=H++ [n]) (ids':=(qd4 g most n i q).ids) (Nat.le_trans (qa0 ..) (by(with_reducible exact Nat.succ_le_succ ‹_›))) hget
 have G1:Go (side O b) (side O1 b) σ (σg.set (.dict (b+14)) (.dictI (qbd n (.ref (.inst .buffer ((qd4 g most n i q).ids n))) kvs))):=((Go.newTup (two b)).trans g1).side.trans gset.bookSide
 have cs:=c1.go gset nb1
 have hbt:bt H n Q=btw H n Q []:=if_neg hn
 have e1:nH 2 n H=H++ [n]:=rfl
 have e2:nQ 2 n H Q=Q:=by simp [nQ,e1]
 rw [qkk]at hd;by_cases hk:n∈g.kn
 ·refine qao (due2 (d:=d+4) (hL:=hL) (bt:=bt H n Q) B1 ltg (A.tupAt G1) (by rw [hbt];exact(S.found hn A.hm).mpr hk) (S.shd n hk) (by lia)) fun σ2 r2 B2 g2=>?_
  rw [if_pos hk]at hd;have fin:=S.take (T2:=T+10) hn hr ((cs.go g2 nb1).mono (by(with_reducible exact oq3 (by decide)))) (by simp only [qd4,if_pos hk];exact B2.mono (by lia)) rfl (fun m h=>qak _ _ h) (qat ..) (fun m h=>qak _ _ h) (fun m h=>rfl) (by show _=some (fup g.dat n _ n);rw [qat,if_pos hk,S.shd n hk]) nb1 (Nat.le_trans ltg g2.le)
  exact Turn.of hd r2 (.inr ⟨_,rfl⟩) (by rw [e1,e2];exact fin) (G1.trans g2.bookSide)
 ·refine qao (due2m (d:=d+4) (hL:=hL) (bt:=bt H n Q) B1 ltg (A.tupAt G1) (by rw [hbt];exact fun q=>hk ((S.found hn A.hm).mp q)) A.hn (by lia)) fun σ2 r2 B2 g2=>?_
  rw [if_neg hk]at hd;have fin:=S.take (T2:=T+10) (sh2:=fup sh n (some (g.lat n))) hn hr ((cs.go g2 nb1).mono (by(with_reducible exact oq3 (by decide)))) (by simp only [qd4,if_neg hk];exact B2.mono (by lia)) rfl (fun m h=>qak _ _ h) (qat ..) (fun m h=>qak _ _ h) (fun m h=>qak _ _ h) (by show _=some (fup g.dat n _ n);rw [qat,qat,if_neg hk]) nb1 (Nat.le_trans ltg g2.le)
  exact Turn.of hd r2 (.inr ⟨_,rfl⟩) (by rw [e1,e2];exact fin) (G1.trans g2.bookSide)
theorem turn3 (A:At σ O b most bl sz T 3 n p t hL oct H Q g sh) (hn:n∈H):Turn d σ O b most bl sz T 3 n p t hL H Q:=by
 have S:=A.S
 have hT:=A.hT
 have hk:=S.hkn n hn
 have ct:CR (σ.new .tup (two b)) O b most bl sz T g:=S.cr.newMore rfl
 have Bt:=S.br.newTup S.lt (two b)
 have lt1:b+18≤(σ.new .tup (two b)).next:=Nat.le_succ_of_le S.lt
 refine qao S.br.hands fun kvs hh0 hhT hhg=>?_
 have gset:Go (qdf b) (qdf b) (σ.new .tup (two b)) ((σ.new .tup (two b)).set (.dict (b+14)) (.dictI (qds n kvs))):=Go.bookSet (by simp [Loc.n]) (by simp [Loc.n])
 have cs:=ct.go gset S.nb
 refine qao (cs.letGo (d:=d+2) (n:=n) hk (qsu S hn)) fun σ1 r1 c1 g1=>?_
 have hd:=done3 (d:=d) S.cr S.br A.ht hn hh0 hhg r1
 have hget: ∀m:Nat,qa8 m (qds n kvs)=if m∈H.erase n then some (.ref (.inst .buffer (g.ids m)))else none:=fun m=>by
  rw [qh4,hhg];by_cases e:m=n
  ·subst e;rw [if_pos rfl,if_neg fun q=>(S.hnd.mem_erase_iff.mp q).1 rfl]
  ·have: ¬(m:Int)=n:=by(with_reducible exact qo7 ‹_›)
   simp [this,List.mem_erase_of_ne e]
 have Bs:=Bt.setHands (H':=H.erase n) (ids':=g.ids) (Nat.le_trans (qh3 ..) hhT) hget
 have B1:=Bs.go g1 (fun k h1 h2=>S.nb k ⟨h1,h2⟩) lt1
 have G1:Go (side O b) (side O b) σ σ1:=((Go.newTup (two b)).trans gset.bookSide).trans g1.side
 have nb1:=qg6 g1 S.nb lt1
 have lt2:b+18≤σ1.next:=Nat.le_trans lt1 g1.le
 refine qao (due3 (d:=d+4) (hL:=hL) (bt:=bt H n Q) B1 lt2 (A.tupAt G1) (by(with_reducible exact Nat.le_trans ‹_› (by decide)))) fun σ2 r2 B2 g2=>?_
 have e1:nH 3 n H=H.erase n:=rfl
 have e2:nQ 3 n H Q=some n::Q:=by
  have:n∉H.erase n:=fun q=>(S.hnd.mem_erase_iff.mp q).1 rfl
  simp [nQ,e1,this]
 have fin:=S.drop (T2:=T+10) hn ((c1.go g2 nb1).mono (by(with_reducible exact Nat.le_add_right _ _))) (B2.mono (by(with_reducible exact oq3 (by decide)))) rfl (fun m h=>qak _ _ h) (qat ..) rfl nb1 (Nat.le_trans lt2 g2.le)
 exact Turn.of hd r2 (.inl rfl) (by rw [e1,e2];exact fin) (G1.trans g2.bookSide)
theorem turn6 (A:At σ O b most bl sz T 6 n p t hL oct H Q g sh):Turn d σ O b most bl sz T 6 n p t hL H Q:=by
 have S:=A.S
 have hT:=A.hT
 have ct:CR (σ.new .tup (two b)) O b most bl sz T g:=S.cr.newMore rfl
 have Bt:=S.br.newTup S.lt (two b)
 have lt1:b+18≤(σ.new .tup (two b)).next:=Nat.le_succ_of_le S.lt
 refine qqx (d:=d+2) ct A.hn A.ho (by(with_reducible exact Nat.le_trans ‹_› (by decide))) fun σ1 r1 c1 g1=>?_
 have hd:=done6 (d:=d) S.cr S.br A.ht r1
 have B1:=Bt.go g1 (fun k h1 h2=>S.nb k ⟨h1,h2⟩) lt1
 have G1:Go (side O b) (side O b) σ σ1:=((Go.newTup (two b)).trans g1).side
 have nb1:=qg6 g1 S.nb lt1
 have lt2:b+18≤σ1.next:=Nat.le_trans lt1 g1.le
 refine due6 (d:=d+4) (hL:=hL) (bt:=bt H n Q) B1 lt2 (A.tupAt G1) A.hn (by(with_reducible exact Nat.le_trans ‹_› (by decide))) fun σ2 r2 B2 g2=>?_
 have e1:nH 6 n H=H:=rfl
 have e2:nQ 6 n H Q=Q:=by simp [nQ]
 have fin:=S.keepE (T2:=T+10) ((c1.go g2 nb1).mono (by(with_reducible exact oq3 (by decide)))) B2 (by(with_reducible exact oq3 (by decide))) ⟨rfl,rfl,rfl,rfl⟩ rfl rfl rfl S.shd (Nat.le_trans lt2 g2.le)
 exact Turn.of hd r2 (.inl rfl) (by rw [e1,e2];exact fin) (G1.trans g2.bookSide)
theorem turn7 (A:At σ O b most bl sz T 7 n p t hL oct H Q g sh):Turn d σ O b most bl sz T 7 n p t hL H Q:=by
 have S:=A.S
 have hT:=A.hT
 have ct:CR (σ.new .tup (two b)) O b most bl sz T g:=S.cr.newMore rfl
 have Bt:=S.br.newTup S.lt (two b)
 have lt1:b+18≤(σ.new .tup (two b)).next:=Nat.le_succ_of_le S.lt
 refine qoz (d:=d+2) ct fun σ1 r1 c1 g1=>?_
 have hd:=done7 (d:=d) S.cr S.br A.ht r1
 have B1:=Bt.go g1 (fun k h1 h2=>S.nb k ⟨h1,h2⟩) lt1
 have G1:Go (side O b) (side O b) σ σ1:=((Go.newTup (two b)).trans g1).side
 have nb1:=qg6 g1 S.nb lt1
 have lt2:b+18≤σ1.next:=Nat.le_trans lt1 g1.le
 refine qao (due7 (d:=d+4) (hL:=hL) (bt:=bt H n Q) B1 lt2 (A.tupAt G1) (by(with_reducible exact Nat.le_trans ‹_› (by decide)))) fun σ2 r2 B2 g2=>?_
 have e1:nH 7 n H=H:=rfl
 have e2:nQ 7 n H Q=none::Q:=by simp [nQ]
 have fin:=S.forget (T2:=T+10) ((c1.go g2 nb1).mono (by(with_reducible exact Nat.le_add_right _ _))) (B2.mono (by(with_reducible exact oq3 (by decide)))) (Nat.le_trans lt2 g2.le)
 exact Turn.of hd r2 (.inl rfl) (by rw [e1,e2];exact fin) (G1.trans g2.bookSide)
theorem turn0h (A:At σ O b most bl sz T 0 n p t hL oct H Q g sh) (hn:n∈H):Turn d σ O b most bl sz T 0 n p t hL H Q:=by
 have S:=A.S
 have hT:=A.hT
 have hk:=S.hkn n hn
 have ct:CR (σ.new .tup (two b)) O b most bl sz T g:=S.cr.newMore rfl
 have Bt:=S.br.newTup S.lt (two b)
 have lt1:b+18≤(σ.new .tup (two b)).next:=Nat.le_succ_of_le S.lt
 refine qq1 (d:=d) ct hk (qsu S hn) fun σ1 r1 c1 g1=>?_
 have hd:=done0 S.cr S.br A.ht r1
 have B1:=Bt.go g1 (fun k h1 h2=>S.nb k ⟨h1,h2⟩) lt1
 have G1:Go (side O b) (side O b) σ σ1:=((Go.newTup (two b)).trans g1).side
 have nb1:=qg6 g1 S.nb lt1
 have lt2:b+18≤σ1.next:=Nat.le_trans lt1 g1.le
 have hbt:bt H n Q=0:=if_pos hn
 have hpos:0<most:=Nat.lt_of_lt_of_le (List.length_pos_of_mem hn) S.hlen
 refine qao (due0 (d:=d+4) (hL:=hL) (bt:=bt H n Q) B1 lt2 (A.tupAt G1) (by rw [hbt];exact hpos) (S.shd n hk) (by(with_reducible exact Nat.le_trans ‹_› (by decide)))) fun σ2 r2 B2 g2=>?_
 have e1:nH 0 n H=H:=rfl
 have e2:nQ 0 n H Q=Q:=by simp [nQ,e1,hn]
 have fin:=S.keepE (T2:=T+10) ((c1.go g2 nb1).mono (by(with_reducible exact Nat.le_add_right _ _))) B2 (by(with_reducible exact oq3 (by decide))) ⟨rfl,rfl,rfl,rfl⟩ rfl rfl rfl S.shd (Nat.le_trans lt2 g2.le)
 exact Turn.of hd r2 (.inr ⟨_,rfl⟩) (by rw [e1,e2];exact fin) (G1.trans g2.bookSide)
theorem turn1h (A:At σ O b most bl sz T 1 n p t hL oct H Q g sh) (hn:n∈H):Turn d σ O b most bl sz T 1 n p t hL H Q:=by
 have S:=A.S
 have hT:=A.hT
 have hk:=S.hkn n hn
 have ct:CR (σ.new .tup (two b)) O b most bl sz T g:=S.cr.newMore rfl
 have Bt:=S.br.newTup S.lt (two b)
 have lt1:b+18≤(σ.new .tup (two b)).next:=Nat.le_succ_of_le S.lt
 refine qq3 (d:=d) ct hk A.ho (qsu S hn) (by(with_reducible exact Nat.le_trans ‹_› (by decide))) fun σ1 r1 c1 g1=>?_
 have hd:=done1 S.cr S.br A.ht r1
 have B1:=Bt.go g1 (fun k h1 h2=>S.nb k ⟨h1,h2⟩) lt1
 have G1:Go (side O b) (side O b) σ σ1:=((Go.newTup (two b)).trans g1).side
 have nb1:=qg6 g1 S.nb lt1
 have lt2:b+18≤σ1.next:=Nat.le_trans lt1 g1.le
 have hbt:bt H n Q=0:=if_pos hn
 have hpos:0<most:=Nat.lt_of_lt_of_le (List.length_pos_of_mem hn) S.hlen
 refine due1 (d:=d+4) (hL:=hL) (bt:=bt H n Q) B1 lt2 (A.tupAt G1) (by rw [hbt];exact hpos) (S.shd n hk) A.hn (by(with_reducible exact Nat.le_trans ‹_› (by decide))) fun σ2 r2 B2 g2=>?_
 have e1:nH 1 n H=H:=rfl
 have e2:nQ 1 n H Q=Q:=by simp [nQ,e1,hn]
 have fin:=S.keepE (T2:=T+10) ((c1.go g2 nb1).mono (by(with_reducible exact oq3 (by decide)))) B2 (by(with_reducible exact oq3 (by decide))) (by refine⟨?_,?_,?_,?_⟩<;>simp only [qir,qco,qat]) rfl rfl rfl (fun x hx=>by
  show fup sh n _ x=some (fup g.dat n oct x)
  by_cases e:x=n
  ·subst e;rw [qat,qat]
  ·rw [qak _ _ e,qak _ _ e];exact S.shd x hx) (Nat.le_trans lt2 g2.le)
 exact Turn.of hd r2 (.inl rfl) (by rw [e1,e2];exact fin) (G1.trans g2.bookSide)
theorem qv7 {way:Nat} (hway:way=4∨way=5) (A:At σ O b most bl sz T way n p t hL oct H Q g sh) (hn:n∈H):Turn d σ O b most bl sz T way n p t hL H Q:=by
 have S:=A.S
 have hT:=A.hT
 have hk:=S.hkn n hn
 have ct:CR (σ.new .tup (two b)) O b most bl sz T g:=S.cr.newMore rfl
 have Bt:=S.br.newTup S.lt (two b)
 have lt1:b+18≤(σ.new .tup (two b)).next:=Nat.le_succ_of_le S.lt
 have hsz:=S.cr.szl
 have ho64:oct.length≤64:=by have:=A.ho;(with_reducible exact qko ‹_› ‹_› (by decide))
 have hpo:p+(oct.drop p).length=sz:=by have:=A.ho;have:=A.hp;rw [List.length_drop];exact oqn A.ho A.hp
 have hlen:=(S.cr.bufo n hk).2.2.1
 refine qao S.br.hands fun kvs hh0 hhT hhg=>?_
 refine ct.put (d:=d+2) hk hpo fun σ3 r3 c3 g3=>?_
 have hands3:σ3.heap (.dict (b+14))=some (.dictI kvs):=(g3.eq (.dict (b+14)) (by show b+14<_;(with_reducible exact qo6 ‹_› (by decide))) (S.nb _ ⟨by simp [Loc.n],by simp [Loc.n]⟩)).trans hh0
 have e1:nH way n H=H:=by rcases hway with rfl|rfl<;>rfl
 have e2:nQ way n H Q=Q:=by rcases hway with rfl|rfl<;>simp [nQ,e1,hn]
 have hsh2: ∀(y:List UInt8),∀x∈g.kn,fup sh n (some y) x=some (fup g.dat n y x):=fun y x hx=>by
  by_cases e:x=n
  ·subst e;rw [qat,qat]
  ·rw [qak _ _ e,qak _ _ e];exact S.shd x hx
 rcases hway with rfl|rfl
 ·have hd:=done4h (d:=d) S.cr S.br A.ht hn ho64 hk S.lt r3 hh0 hands3 hhg
  have B1:=Bt.go g3 (fun k h1 h2=>S.nb k ⟨h1,h2⟩) lt1
  have G1:Go (side O b) (side O b) σ σ3:=((Go.newTup (two b)).trans g3).side
  have nb1:=qg6 g3 S.nb lt1
  have lt2:b+18≤σ3.next:=Nat.le_trans lt1 g3.le
  refine qao (due4h (d:=d+4) (hL:=hL) (bt:=bt H n Q) B1 lt2 (A.tupAt G1) hn (A.heldAt G1) (S.shd n hk) ho64 (by(with_reducible exact qko ‹_› ‹_› (by decide))) (by rw [List.length_take];exact oqf hpo hsz) A.hn (by(with_reducible exact Nat.le_trans ‹_› (by decide)))) fun σ2 r2 B2 g2=>?_
  have fin:=S.keepE (T2:=T+10) ((c3.go g2 nb1).mono (by(with_reducible exact Nat.le_add_right _ _))) B2 (by(with_reducible exact oq3 (by decide))) ⟨rfl,rfl,rfl,rfl⟩ rfl rfl rfl (hsh2 _) (Nat.le_trans lt2 g2.le)
  exact Turn.of hd r2 (.inr ⟨_,rfl⟩) (by rw [e1,e2];exact fin) (G1.trans g2.bookSide)
 ·refine qao (c3.write (d:=d+1) (n:=n) (k:=0) hk (show g.hold n=0+1 from qsu S hn) (by(with_reducible exact Nat.le_trans ‹_› (by decide)))) fun σ1 r4 c4 g4=>?_
  have g1:=g3.trans g4
  have hands4:σ1.heap (.dict (b+14))=some (.dictI kvs):=(g1.eq (.dict (b+14)) (by show b+14<_;(with_reducible exact qo6 ‹_› (by decide))) (S.nb _ ⟨by simp [Loc.n],by simp [Loc.n]⟩)).trans hh0
  have hd:=done5h (d:=d) S.cr S.br A.ht hn ho64 hk S.lt r3 c3 r4 hh0 hands4 hhg
  have B1:=Bt.go g1 (fun k h1 h2=>S.nb k ⟨h1,h2⟩) lt1
  have G1:Go (side O b) (side O b) σ σ1:=((Go.newTup (two b)).trans g1).side
  have nb1:=qg6 g1 S.nb lt1
  have lt2:b+18≤σ1.next:=Nat.le_trans lt1 g1.le
  refine qao (due5h (d:=d+4) (hL:=hL) (bt:=bt H n Q) B1 lt2 (A.tupAt G1) hn (A.heldAt G1) (S.shd n hk) ho64 (by(with_reducible exact qko ‹_› ‹_› (by decide))) (by rw [List.length_take];exact oqf hpo hsz) A.hn (by(with_reducible exact Nat.le_trans ‹_› (by decide)))) fun σ2 r2 B2 g2=>?_
  have fin:=S.keepE (T2:=T+10) ((c4.go g2 nb1).mono (by(with_reducible exact oq3 (by decide)))) B2 (by(with_reducible exact oq3 (by decide))) (by refine⟨?_,?_,?_,?_⟩<;>simp only [qir,qco,qat]) rfl rfl rfl (hsh2 _) (Nat.le_trans lt2 g2.le)
  exact Turn.of hd r2 (.inr ⟨_,rfl⟩) (by rw [e1,e2];exact fin) (G1.trans g2.bookSide)
theorem ways8: ∀way:Nat,way≤7→(way=0∨way=1∨way=2∨way=3∨(way=4∨way=5)∨way=6∨way=7):=by decide
theorem turn {way:Nat} (A:At σ O b most bl sz T way n p t hL oct H Q g sh) (hw:way≤7) (h2:way=2→n∉H) (h3:way=3→n∈H) (hr:way<6→n∈H∨H.length<most):Turn d σ O b most bl sz T way n p t hL H Q:=by
 rcases ways8 way hw with rfl|rfl|rfl|rfl|h45|rfl|rfl
 ·by_cases hn:n∈H
  ·exact turn0h A hn
  ·exact turn0f A hn ((hr (by(with_reducible exact Nat.succ_pos _))).resolve_left hn)
 ·by_cases hn:n∈H
  ·exact turn1h A hn
  ·exact turn1f A hn ((hr (by decide)).resolve_left hn)
 ·exact turn2 A (h2 rfl) ((hr (by decide)).resolve_left (h2 rfl))
 ·exact turn3 A (h3 rfl)
 ·by_cases hn:n∈H
  ·exact qv7 h45 A hn
  ·exact qv6 h45 A hn ((hr (h45.elim (fun e=>e ▸ by decide) fun e=>e ▸ by decide)).resolve_left hn)
 ·exact turn6 A
 ·exact turn7 A
end
end Mine.B
end
noncomputable section
namespace Mine.B
noncomputable def one (w:Nat):Nat→Prop:=fun k=>k=w
noncomputable def noO:Nat→Prop:=fun _=>False
noncomputable def Well (σ:St) (w K:Nat):Prop:= ∃a b c:Int,σ.heap (.list w)=some (.list [.int a,.int b,.int c])∧0≤a∧0≤b∧b<2147483399∧0≤c∧c≤K
theorem Go.weak {O O' P:Nat→Prop} {σ σ':St} (g:Go O O' σ σ') (h: ∀k,O k→P k) (h2: ∀k,P k→k<σ.next∨True):Go P P σ σ':=⟨g.le,fun l h1 h3=>g.eq l h1 fun q=>h3 (h _ q),fun k hk=> .inl hk⟩
section
variable {d:Nat} {σ:St}
theorem qt0 {z:Int} {n:Nat} (h0:0≤z) (h:z<n):z.natAbs<n:=Int.ofNat_lt.mp (by rw [Int.natAbs_of_nonneg h0];exact h)
theorem qf7 {w K m:Nat} (hW:Well σ w K) (hm:1≤m) (hm2:m<1000) (hK:K≤10000) (hw:w≠0) {GG:Prop} (kk: ∀(r:Nat) (σ':St),qag Pm (d+1) (.f "_law_draw") [.ref (.list w),.int m] σ=some (.int r,σ')→r<m→Well σ' w (K+1)→Go (one w) (one w) σ σ'→σ'.next=σ.next→GG):GG:=by
 refine qt4 hW fun a b c hl ha hb hb2 hc hcK=>?_
 have hm0: ¬(m:Int)=0:=by lia
 have hmp:(0:Int)<m:=by lia
 have hmn:m<1073741824:=by(with_reducible exact Nat.lt_of_lt_of_le ‹_› (by decide))
 have hm00: ¬m=0:=by lia
 have key: ∀x:Int,∃r:Nat,x.fmod m=r∧r<m:=fun x=>by
  have h1:=Int.fmod_nonneg_of_pos x hmp
  have h2:=Int.fmod_lt_of_pos x hmp
  refine qaj (Int.eq_ofNat_of_zero_le h1) fun r hr=>⟨r,hr,?_⟩
  rw [hr]at h2;exact Int.ofNat_lt.mp h2
 by_cases h0:0<a
 ·refine qac (key a) fun r hr hrm=>?_
  refine kk r (σ.set (.list w) (.list [.int (a.fdiv m),.int b,.int c])) ?_ hrm ⟨a.fdiv m,b,c,by simp [qaa],Int.fdiv_nonneg ha (by(with_reducible exact Int.natCast_nonneg _)),hb,hb2,hc,Int.le_trans hcK (Int.ofNat_le.mpr (Nat.le_succ K))⟩ (Go.set rfl) rfl
  rw [qgw];simp(decide:=true) [-String.reduceEq,-String.reduceNe,-BEq.rfl,l0,qdi,hl,h0,hm0,hm00,hmn,hw,hr]
 ·refine qac (key ((((b+7919*(c+1))^3).fmod 2147483399).fdiv 32)) fun r hr hrm=>?_
  refine kk r (σ.set (.list w) (.list [.int a,.int b,.int (c+1)])) ?_ hrm ⟨a,b,c+1,by simp [qaa],ha,hb,hb2,Int.add_nonneg hc (by decide),Int.add_le_add_right hcK 1⟩ (Go.set rfl) rfl
  have c1:0≤c+1:=Int.add_nonneg hc (by decide)
  have c2:c+1≤10001:=Int.add_le_add_right (Int.le_trans hcK (Int.ofNat_le.mpr hK)) 1
  have h1:(c+1).natAbs<18446744073709551616:=qt0 c1 (Int.lt_of_le_of_lt c2 (by decide))
  have h2:(b+7919*(c+1)).natAbs<18446744073709551616:=qt0 (Int.add_nonneg hb (Int.mul_nonneg (by decide) c1)) (Int.lt_trans (Int.add_lt_add_of_lt_of_le hb2 (Int.mul_le_mul_of_nonneg_left c2 (by decide))) (by decide))
  rw [qgw];simp(decide:=true) [-String.reduceEq,-String.reduceNe,-BEq.rfl,l0,qdi,hl,h0,hm0,hm00,hmn,hw,h1,h2]
  exact hr
noncomputable def qeh:Option Nat→V
 |none=> .int (-1)
 |some n=> .int n
noncomputable def qay (H:List Nat):MObj:= .list (H.map fun n:Nat=>V.int n)
noncomputable def qkn (Q:List (Option Nat)):MObj:= .list (Q.reverse.map qeh)
noncomputable def qec:List MS:=match D__law_between.body with
 | [_,_,.forRev _ _ b,_]=>b
 |_=> []
theorem qbx {n:Nat} {H:List Nat}:(∃a,a∈H∧(a:Int)=n) ↔ n∈H:=⟨fun⟨a,h1,h2⟩=>(Int.ofNat.inj h2) ▸ h1,fun h=>⟨n,h,rfl⟩⟩
theorem qsv {H:List Nat} {n f rL:Nat} {row:List V} (hfr:f≠rL) (hf0:f≠0): ∀(Q:List (Option Nat)) (acc:List Nat) (l:Locs) (σ:St),σ.heap (.list f)=some (qay (H++acc))→σ.heap (.list rL)=some (.list row)→H.length+acc.length+Q.length≤1000→l "number" =some (.int n)→l "found" =some (.ref (.list f))→
  ∀{GG:Prop},(∀l' σ' fl,qch (fun s=>decide (qav (.ref (.list rL)) s=some row)) (fun u l s=>qbk (qag Pm d) qec (l.set "other" u) s) (Q.map qeh) l σ=some (fl,l',σ')→(fl= .ret (.int (btw H n Q acc))∨fl= .next∧btw H n Q acc=99)→σ'.next=σ.next→(∀x:Loc,x≠ .list f→σ'.heap x=σ.heap x)→GG)→GG:=by
 intro Q
 induction Q with
 |nil=>exact fun acc l σ hf hr hb hn hfd _ kk=>kk l σ .next (qcn (by simp [hr])) (.inr ⟨rfl,rfl⟩) rfl fun _ _=>rfl
 |cons o Q ih=>
  intro acc l σ hf hr hb hn hfd GG kk;cases o with
  |none=>
   refine kk (l.set "other" (qeh none)) σ (.ret (.int 99)) ?_ (.inl rfl) rfl fun _ _=>rfl
   rw [List.map_cons,qbn (by simp [hr])];simp(decide:=true) [-String.reduceEq,-String.reduceNe,-BEq.rfl,qec,D__law_between,qeh];rfl
  |some m=>
  have hneg: ¬(m:Int)<0:=by(with_reducible exact oq13)
  by_cases e:m=n
  ·subst e;refine kk (l.set "other" (qeh (some m))) σ (.ret (.int (btw H m (some m::Q) acc))) ?_ (.inl rfl) rfl fun _ _=>rfl
   clear ih kk;rw [List.map_cons,qbn (by simp [hr])];simp(decide:=true) [-String.reduceEq,-String.reduceNe,-BEq.rfl,qec,D__law_between,qeh,hn,hneg,hfd,hf,qay,btw];rfl
  ·have e2: ¬(m:Int)=n:=by(with_reducible exact qo7 ‹_›)
   have hin2:=qa7 (H++acc)
   rw [List.map_append]at hin2;simp only [List.length_cons]at hb;by_cases hm:m∈H∨m∈acc
   ·have hdec:(!decide (m∈H)&& !decide (m∈acc))=false:=by rcases hm with h|h<;>simp [h]
    have step:qbk (qag Pm d) qec (l.set "other" (qeh (some m))) σ=some (.next,l.set "other" (qeh (some m)),σ):=by
     clear ih kk;simp(decide:=true) [-String.reduceEq,-String.reduceNe,-BEq.rfl,qec,D__law_between,qeh,hn,hneg,e2,hfd,hf,qay,hin2,qbx,hdec]
    refine ih acc (l.set "other" (qeh (some m))) σ hf hr (by lia) (by simp [Locs.set,hn]) (by simp [Locs.set,hfd]) fun l' σ' fl h1 h2 h3 h4=>?_
    exact kk l' σ' fl (by rw [List.map_cons,qbn (by simp [hr]),step];exact h1) (by unfold btw;rw [if_neg e,if_pos hm];exact h2) h3 h4
   ·have hlen:H.length+acc.length≤100000:=by lia
    have hmH:m∉H:=fun q=>hm (.inl q)
    have hmA:m∉acc:=fun q=>hm (.inr q)
    have step:qbk (qag Pm d) qec (l.set "other" (qeh (some m))) σ=some (.next,l.set "other" (qeh (some m)),σ.set (.list f) (qay (H++(acc++ [m])))):=by
     clear ih kk;simp(decide:=true) [-String.reduceEq,-String.reduceNe,-BEq.rfl,qec,D__law_between,qeh,hn,hneg,e2,hfd,hf,qay,hin2,qbx,hmH,hmA,hlen,hf0]
    have hrf:(.list rL:Loc)≠ .list f:=fun q=>hfr (Loc.list.inj q).symm
    refine ih (acc++ [m]) (l.set "other" (qeh (some m))) (σ.set (.list f) (qay (H++(acc++ [m])))) (by simp [qaa]) (by rw [qaa,if_neg hrf];exact hr) (by simp;lia) (by simp [Locs.set,hn]) (by simp [Locs.set,hfd]) fun l' σ' fl h1 h2 h3 h4=>?_
    exact kk l' σ' fl (by rw [List.map_cons,qbn (by simp [hr]),step];exact h1) (by unfold btw;rw [if_neg e,if_neg hm];exact h2) h3 fun x hx=>(h4 x hx).trans (by rw [qaa,if_neg hx])
theorem qm3 {H:List Nat} {Q:List (Option Nat)} {rL hL n:Nat} (hr:σ.heap (.list rL)=some (qkn Q)) (hh:σ.heap (.list hL)=some (qay H)) (hrl:rL<σ.next) (hlen:H.length+Q.length≤1000) {GG:Prop} (kk: ∀σ',qag Pm (d+1) (.f "_law_between") [.ref (.list rL),.ref (.list hL),.int n] σ=some (.int (bt H n Q),σ')→Go noO noO σ σ'→GG):GG:=by
 have hin:=qa7 H
 by_cases hn:n∈H
 ·refine kk σ ?_ (.refl ..)
  rw [qen];simp(decide:=true) [-String.reduceEq,-String.reduceNe,-BEq.rfl,l0,D__law_between,hh,qay,hin,qbx,hn,bt]
 ·have hf0:σ.next≠0:=by lia
  refine qsv (d:=d) (H:=H) (n:=n) (f:=σ.next) (rL:=rL) (row:=Q.reverse.map qeh) (by(with_reducible exact Nat.ne_of_gt ‹_›)) hf0 Q [] (((((l0.set "number" (.int n)).set "held" (.ref (.list hL))).set "row" (.ref (.list rL)))).set "found" (.ref (.list σ.next))) (σ.new .list (qay H))
   (by simp [qam]) (by rw [qam,if_neg (by intro q;have:=Loc.list.inj q;(with_reducible exact qwb ‹_› ‹_›))];exact hr) (by simp;(with_reducible assumption)) (by simp [Locs.set]) (by simp [Locs.set]) fun l' σ' fl h1 h2 h3 h4=>?_
  refine kk σ' ?_ ⟨by rw [h3];exact Nat.le_succ _,fun l hl _=>?_,fun k hk=> .inl hk⟩
  ·rw [qen];show qez (qbk (qag Pm d) D__law_between.body (((l0.set "number" (.int n)).set "held" (.ref (.list hL))).set "row" (.ref (.list rL))) σ)=_
   unfold D__law_between;rw [qap (l':=(((l0.set "number" (.int n)).set "held" (.ref (.list hL))).set "row" (.ref (.list rL)))) (σ':=σ) (by simp(decide:=true) [-String.reduceEq,-String.reduceNe,-BEq.rfl,l0,hh,qay,hin,qbx,hn])];rw [qap (l':=((((l0.set "number" (.int n)).set "held" (.ref (.list hL))).set "row" (.ref (.list rL)))).set "found" (.ref (.list σ.next))) (σ':=σ.new .list (qay H)) (by simp(decide:=true) [-String.reduceEq,-String.reduceNe,-BEq.rfl,l0,hh,qay])];have hfor:evS (qag Pm d) (.forRev "other" (.var "row") qec) (((((l0.set "number" (.int n)).set "held" (.ref (.list hL))).set "row" (.ref (.list rL)))).set "found" (.ref (.list σ.next))) (σ.new .list (qay H))=some (fl,l',σ'):=by
    rw [qly (v:= .ref (.list rL)) (σ₁:=σ.new .list (qay H)) (vs:=Q.reverse.map qeh) (by simp(decide:=true) [-String.reduceEq,-String.reduceNe,-BEq.rfl,l0]) (by rw [qhy,qam,if_neg (by intro q;have:=Loc.list.inj q;(with_reducible exact qwb ‹_› ‹_›)),hr];rfl)];rw [←List.map_reverse,List.reverse_reverse];exact h1
   show qez (qbk (qag Pm d) (.forRev "other" (.var "row") qec::_) _ _)=_
   rw [qbv,hfor];have e:bt H n Q=btw H n Q []:=if_neg hn
   rw [e];rcases h2 with rfl|⟨rfl,h9⟩
   ·rfl
   ·rw [h9];rfl
  ·have hx:l≠ .list σ.next:=by rintro rfl;exact Nat.lt_irrefl _ hl
   rw [h4 l hx,qam,if_neg hx]
end
end Mine.B
end
noncomputable section
namespace Mine.B
noncomputable def qed:List MS:=match D__law_latest.body with
 | [_,.forRev _ _ b,_]=>b
 |_=> []
section
variable {d:Nat} {σ:St}
theorem qsw {H:List Nat} {f rL hL:Nat} {row:List V} (hfr:f≠rL) (hfh:f≠hL) (hf0:f≠0): ∀(Q:List (Option Nat)) (acc:List Nat) (l:Locs) (σ:St),σ.heap (.list f)=some (qay acc)→σ.heap (.list rL)=some (.list row)→σ.heap (.list hL)=some (qay H)→
  acc.length+Q.length≤1000→l "held" =some (.ref (.list hL))→l "found" =some (.ref (.list f))→
  ∀{GG:Prop},(∀l' σ' fl,qch (fun s=>decide (qav (.ref (.list rL)) s=some row)) (fun u l s=>qbk (qag Pm d) qed (l.set "other" u) s) (Q.map qeh) l σ=some (fl,l',σ')→(fl= .ret (.ref (.list f))∨fl= .next∧l' "found" =some (.ref (.list f)))→
   σ'.heap (.list f)=some (qay (acc++(Lr H Q).filter fun x=>x∉acc))→σ'.next=σ.next→(∀x:Loc,x≠ .list f→σ'.heap x=σ.heap x)→GG)→GG:=by
 intro Q
 induction Q with
 |nil=>exact fun acc l σ hf hr hh hb hl hfd _ kk=>kk l σ .next (qcn (by simp [hr])) (.inr ⟨rfl,hfd⟩) (by simpa [Lr]using hf) rfl fun _ _=>rfl
 |cons o Q ih=>
  intro acc l σ hf hr hh hb hl hfd GG kk;cases o with
  |none=>
   refine kk (l.set "other" (qeh none)) σ (.ret (.ref (.list f))) ?_ (.inl rfl) (by simpa [Lr]using hf) rfl fun _ _=>rfl
   rw [List.map_cons,qbn (by simp [hr])];simp(decide:=true) [-String.reduceEq,-String.reduceNe,-BEq.rfl,qed,D__law_latest,qeh,hfd];rfl
  |some m=>
  have hneg: ¬(m:Int)<0:=by(with_reducible exact oq13)
  simp only [List.length_cons]at hb;have h1:=qa7 H
  have h2:=qa7 acc
  by_cases hm:m∈H∨m∈acc
  ·have step:qbk (qag Pm d) qed (l.set "other" (qeh (some m))) σ=some (.next,l.set "other" (qeh (some m)),σ):=by
    clear ih kk;by_cases hmH:m∈H
    ·simp(decide:=true) [-String.reduceEq,-String.reduceNe,-BEq.rfl,qed,D__law_latest,qeh,hneg,hfd,hl,hf,hh,qay,h1,h2,qbx,hmH]
    ·simp(decide:=true) [-String.reduceEq,-String.reduceNe,-BEq.rfl,qed,D__law_latest,qeh,hneg,hfd,hl,hf,hh,qay,h1,h2,qbx,hmH,hm.resolve_left hmH]
   refine ih acc (l.set "other" (qeh (some m))) σ hf hr hh (by lia) (by simp [Locs.set,hl]) (by simp [Locs.set,hfd]) fun l' σ' fl r1 r2 r3 r4 r5=>?_
   clear ih;refine kk l' σ' fl (by rw [List.map_cons,qbn (by simp [hr]),step];exact r1) r2 ?_ r4 r5
   rw [r3];congr 3
   by_cases hmH:m∈H
   ·rw [Lr,if_pos hmH]
   ·have hma:=hm.resolve_left hmH
    rw [Lr,if_neg hmH,List.filter_cons_of_neg (by simpa using hma),List.filter_filter];congr 1
    funext x
    by_cases q:x=m
    ·subst q;simp [hma]
    ·simp [q]
  ·have hmH:m∉H:=fun q=>hm (.inl q)
   have hmA:m∉acc:=fun q=>hm (.inr q)
   have hlen:acc.length≤100000:=by lia
   have step:qbk (qag Pm d) qed (l.set "other" (qeh (some m))) σ=some (.next,l.set "other" (qeh (some m)),σ.set (.list f) (qay (acc++ [m]))):=by
    clear ih kk;simp(decide:=true) [-String.reduceEq,-String.reduceNe,-BEq.rfl,qed,D__law_latest,qeh,hneg,hfd,hl,hf,hh,qay,h1,h2,qbx,hmH,hmA,hlen,hf0]
   have hrf:(.list rL:Loc)≠ .list f:=fun q=>hfr (Loc.list.inj q).symm
   have hhf:(.list hL:Loc)≠ .list f:=fun q=>hfh (Loc.list.inj q).symm
   refine ih (acc++ [m]) (l.set "other" (qeh (some m))) (σ.set (.list f) (qay (acc++ [m]))) (by simp [qaa]) (by rw [qaa,if_neg hrf];exact hr) (by rw [qaa,if_neg hhf];exact hh) (by simp;lia) (by simp [Locs.set,hl]) (by simp [Locs.set,hfd]) fun l' σ' fl r1 r2 r3 r4 r5=>?_
   clear ih;refine kk l' σ' fl (by rw [List.map_cons,qbn (by simp [hr]),step];exact r1) r2 ?_ r4 fun x hx=>(r5 x hx).trans (by rw [qaa,if_neg hx])
   rw [r3,Lr,if_neg hmH,List.filter_cons_of_pos (by simpa using hmA),List.filter_filter,List.append_assoc];have e:(fun x=>decide (x∉acc++ [m]))=fun a=>decide (a∉acc)&&decide (a≠m):=by
    funext x;simp
   rw [e];rfl
theorem qo0 {H:List Nat} {Q:List (Option Nat)} {rL hL:Nat} (hr:σ.heap (.list rL)=some (qkn Q)) (hh:σ.heap (.list hL)=some (qay H)) (hrl:rL<σ.next) (hhl:hL<σ.next) (hlen:Q.length≤1000) {GG:Prop} (kk: ∀σ',qag Pm (d+1) (.f "_law_latest") [.ref (.list rL),.ref (.list hL)] σ=some (.ref (.list σ.next),σ')→Go noO noO σ σ'→σ'.heap (.list σ.next)=some (qay (Lr H Q))→σ'.next=σ.next+1→GG):GG:=by
 have hf0:σ.next≠0:=by lia
 refine qsw (d:=d) (H:=H) (f:=σ.next) (rL:=rL) (hL:=hL) (row:=Q.reverse.map qeh) (by(with_reducible exact Nat.ne_of_gt ‹_›)) (by(with_reducible exact Nat.ne_of_gt ‹_›)) hf0 Q [] ((((l0.set "held" (.ref (.list hL))).set "row" (.ref (.list rL)))).set "found" (.ref (.list σ.next))) (σ.new .list (qay []))
  (by simp [qam]) (by rw [qam,if_neg (by intro q;have:=Loc.list.inj q;lia)];exact hr) (by rw [qam,if_neg (by intro q;have:=Loc.list.inj q;(with_reducible exact qwb ‹_› ‹_›))];exact hh) (by simp;(with_reducible assumption)) (by simp [Locs.set]) (by simp [Locs.set]) fun l' σ' fl h1 h2 h3 h4 h5=>?_
 refine kk σ' ?_ ⟨by rw [h4];exact Nat.le_succ _,fun l hl _=>?_,fun k hk=> .inl hk⟩ ?_ (by rw [h4];rfl)
 ·rw [qin];show qez (qbk (qag Pm d) D__law_latest.body ((l0.set "held" (.ref (.list hL))).set "row" (.ref (.list rL))) σ)=_
  unfold D__law_latest;rw [qap (l':=(((l0.set "held" (.ref (.list hL))).set "row" (.ref (.list rL)))).set "found" (.ref (.list σ.next))) (σ':=σ.new .list (qay [])) (by simp(decide:=true) [-String.reduceEq,-String.reduceNe,-BEq.rfl,l0,qay])];have hfor:evS (qag Pm d) (.forRev "other" (.var "row") qed) ((((l0.set "held" (.ref (.list hL))).set "row" (.ref (.list rL)))).set "found" (.ref (.list σ.next))) (σ.new .list (qay []))=some (fl,l',σ'):=by
   rw [qly (v:= .ref (.list rL)) (σ₁:=σ.new .list (qay [])) (vs:=Q.reverse.map qeh) (by simp(decide:=true) [-String.reduceEq,-String.reduceNe,-BEq.rfl,l0]) (by rw [qhy,qam,if_neg (by intro q;have:=Loc.list.inj q;lia),hr];rfl)];rw [←List.map_reverse,List.reverse_reverse];exact h1
  show qez (qbk (qag Pm d) (.forRev "other" (.var "row") qed::_) _ _)=_
  rw [qbv,hfor];rcases h2 with rfl|⟨rfl,h9⟩
  ·rfl
  ·simp(decide:=true) [-String.reduceEq,-String.reduceNe,-BEq.rfl,qjp,qez,h9]
 ·have hx:l≠ .list σ.next:=by rintro rfl;exact Nat.lt_irrefl _ hl
  rw [h5 l hx,qam,if_neg hx]
 ·rw [h3];congr 2
  rw [List.nil_append];exact List.filter_eq_self.mpr fun x _=>by simp
theorem ql2 (a c:Int): ∀l:List Int,qns a (qns c l)=qns c (qns a l)
 | []=>by
  simp only [qns];by_cases h:a≤c<;>by_cases h2:c≤a<;>simp [h,h2]<;>lia
 |x::r=>by
  have ih:=ql2 a c r
  simp only [qns];by_cases h1:a≤x<;>by_cases h2:c≤x<;>by_cases h3:a≤c<;>by_cases h4:c≤a<;>simp [h1,h2,h3,h4,qns,ih]<;>lia
theorem sortI_perm {l₁ l₂:List Int} (h:l₁.Perm l₂):qei l₁=qei l₂:=by
 induction h with
 |nil=>rfl
 |cons x _ ih=>simp only [qei,ih]
 |swap x y l=>simp only [qei];exact ql2 ..
 |trans _ _ h1 h2=>exact h1.trans h2
end
end Mine.B
end
noncomputable section
namespace Mine.B
theorem qf8 {α:Type} (h:α→Int): ∀l:List α,ints? (l.map fun i=>V.int (h i))=some (l.map h)
 | []=>rfl
 |n::r=>by simp only [List.map_cons,ints?,qf8 h r];rfl
theorem qnq (a m:Nat):(a:Int).fmod m=((a % m:Nat):Int):=by
 rw [Int.fmod_eq_emod_of_nonneg _ (by(with_reducible exact Int.natCast_nonneg _))];exact(Int.natCast_emod a m).symm
section
variable {d:Nat} {σ:St}
theorem qaz (σ:St) (mk:Nat→Loc) (o:MObj):(σ.new mk o).heap (mk σ.next)=some o:=by rw [qam,if_pos rfl]
noncomputable def ls (rL hL:Nat):Nat→Prop:=fun k=>k=rL∨k=hL
theorem qv8 {n:Nat} {H:List Nat} (hn:n∈H):ql5 (.int n) (H.map fun n:Nat=>V.int n)=some ((H.erase n).map fun n:Nat=>V.int n):=
 qg8 (f:=fun n:Nat=>V.int n) (fun m _ e=>by have:=V.int.inj e;(with_reducible exact oq11 ‹_›)) hn
theorem ways44: ∀way:Nat,way≤7→((way=0∨way=1∨way=4∨way=5)∨way=2∨way=3∨way=6∨way=7):=by decide
theorem ways4: ∀way:Nat,way≤7→(way=0∨way=1∨way=4∨way=5)→ ¬way=2∧ ¬way=3∧ ¬way=7∧ ¬(way:Int)=2∧ ¬(way:Int)=3∧ ¬(way:Int)=7∧(way:Int)<6∧way<6:=by decide
theorem qv9 {H:List Nat} {Q:List (Option Nat)} {rL hL t way n p:Nat} {oct:List UInt8} (hr:σ.heap (.list rL)=some (qkn Q)) (hh:σ.heap (.list hL)=some (qay H)) (ht:σ.heap (.tup t)=some (qbh way n p oct))
  (hne:rL≠hL) (r0:rL≠0) (h0:hL≠0) (hl1:Q.length≤1000) (hl2:H.length≤1000) (hw:way≤7) (h2:way=2→n∉H) (h3:way=3→n∈H) (hnd:H.Nodup) {GG:Prop} (kk: ∀σ',qag Pm (d+1) (.f "_law_led_on") [.ref (.list rL),.ref (.list hL),.ref (.tup t)] σ=some (.none,σ')→σ'.heap (.list rL)=some (qkn (nQ way n H Q))→σ'.heap (.list hL)=some (qay (nH way n H))→Go (ls rL hL) (ls rL hL) σ σ'→GG):GG:=by
 have hq1:Q.length≤100000:=by(with_reducible exact Nat.le_trans ‹_› (by decide))
 have hq2:H.length≤100000:=by(with_reducible exact Nat.le_trans ‹_› (by decide))
 have hints:=qa7 H
 have hne':hL≠rL:=fun q=>hne q.symm
 have gR: ∀{σ:St} (o:MObj),Go (ls rL hL) (ls rL hL) σ (σ.set (.list rL) o):=fun o=>Go.set (.inl rfl)
 have gH: ∀{σ:St} (o:MObj),Go (ls rL hL) (ls rL hL) σ (σ.set (.list hL) o):=fun o=>Go.set (.inr rfl)
 have gT: ∀(o:MObj),Go (ls rL hL) (ls rL hL) σ (σ.new .tup o):=fun o=>Go.newMore rfl
 have h8:=ways44 way hw
 have rowc: ∀x:Option Nat,qkn (x::Q)= .list (Q.reverse.map qeh++ [qeh x]):=fun x=>by simp [qkn]
 rcases h8 with h0145|rfl|rfl|rfl|rfl
 ·refine qya (ways4 way hw h0145) fun w2 w3 w7 b2 b3 b7 b6 w6=>?_
  clear h0145;have eH:nH way n H=H:=by simp only [nH,w2,w3,if_false]
  by_cases hn:n∈H
  ·have eQ:nQ way n H Q=Q:=by simp [nQ,eH,hn,w7,w6]
   refine kk (σ.new .tup (.tup [.int way,.int n])) ?_ (by rw [eQ,qam,if_neg (by intro q;cases q)];exact hr) (by rw [eH,qam,if_neg (by intro q;cases q)];exact hh) (gT _)
   rw [qb6];simp(decide:=true) [-String.reduceEq,-String.reduceNe,-BEq.rfl,l0,qbp,ht,qbh,hh,qay,hints,qbx,hn,b2,b3,b7,b6]
  ·have eQ:nQ way n H Q=some n::Q:=by simp [nQ,eH,hn,w7,w6]
   refine kk ((σ.new .tup (.tup [.int way,.int n])).set (.list rL) (qkn (some n::Q))) ?_ (by rw [eQ,qaa,if_pos rfl]) ?_ ((gT _).trans (gR _))
   ·rw [qb6];simp(decide:=true) [-String.reduceEq,-String.reduceNe,-BEq.rfl,l0,qbp,ht,qbh,hh,hr,qay,qkn,qeh,hints,qbx,hn,hq1,r0,b2,b3,b7,b6]
   ·rw [eH,qaa,if_neg (by intro q;exact hne' (Loc.list.inj q)),qam,if_neg (by intro q;cases q)];exact hh
 ·have hn:=h2 rfl
  have eH:nH 2 n H=H++ [n]:=rfl
  have eQ:nQ 2 n H Q=Q:=by simp [nQ,eH]
  have hi2:=qa7 (H++ [n])
  rw [List.map_append]at hi2;simp only [List.map_cons,List.map_nil]at hi2;refine kk ((σ.new .tup (.tup [.int (2:Nat),.int n])).set (.list hL) (qay (H++ [n]))) ?_ ?_ (by rw [eH,qaa,if_pos rfl]) ((gT _).trans (gH _))
  ·rw [qb6];simp(decide:=true) [-String.reduceEq,-String.reduceNe,-BEq.rfl,l0,qbp,ht,qbh,hh,hr,qay,qkn,qeh,hi2,qbx,hq2,h0]
  ·rw [eQ,qaa,if_neg (by intro q;exact hne (Loc.list.inj q)),qam,if_neg (by intro q;cases q)];exact hr
 ·have hn:=h3 rfl
  have hno:n∉H.erase n:=fun q=>(hnd.mem_erase_iff.mp q).1 rfl
  have eH:nH 3 n H=H.erase n:=rfl
  have eQ:nQ 3 n H Q=some n::Q:=by simp [nQ,eH,hno]
  have hi2:=qa7 (H.erase n)
  have hrem:=qv8 hn
  refine kk (((σ.new .tup (.tup [.int (3:Nat),.int n])).set (.list hL) (qay (H.erase n))).set (.list rL) (qkn (some n::Q))) ?_ (by rw [eQ,qaa,if_pos rfl]) ?_ (((gT _).trans (gH _)).trans (gR _))
  ·rw [qb6];simp(decide:=true) [-String.reduceEq,-String.reduceNe,-BEq.rfl,l0,qbp,ht,qbh,hh,hr,qay,qkn,qeh,hints,hrem,hi2,qbx,hno,hne,hq1,h0,r0]
  ·rw [eH,qaa,if_neg (by intro q;exact hne' (Loc.list.inj q)),qaa,if_pos rfl]
 ·have eH:nH 6 n H=H:=rfl
  have eQ:nQ 6 n H Q=Q:=by simp [nQ]
  refine kk (σ.new .tup (.tup [.int (6:Nat),.int n])) ?_ (by rw [eQ,qam,if_neg (by intro q;cases q)];exact hr) (by rw [eH,qam,if_neg (by intro q;cases q)];exact hh) (gT _)
  rw [qb6];simp(decide:=true) [-String.reduceEq,-String.reduceNe,-BEq.rfl,l0,qbp,ht,qbh]
 ·have eH:nH 7 n H=H:=rfl
  have eQ:nQ 7 n H Q=none::Q:=by simp [nQ]
  refine kk ((σ.new .tup (.tup [.int (7:Nat),.int n])).set (.list rL) (qkn (none::Q))) ?_ (by rw [eQ,qaa,if_pos rfl]) ?_ ((gT _).trans (gR _))
  ·rw [qb6];simp(decide:=true) [-String.reduceEq,-String.reduceNe,-BEq.rfl,l0,qbp,ht,qbh,hr,qkn,qeh,hq1,r0]
  ·rw [eH,qaa,if_neg (by intro q;exact hne' (Loc.list.inj q)),qam,if_neg (by intro q;cases q)];exact hh
theorem qsx {O:Nat→Prop} {b most bl sz T hL lL:Nat} {Q:List (Option Nat)} {H:List Nat} {g:G} {sh:Nat→Option (List UInt8)} (S:SI σ O b most bl sz T Q H g sh) (hm:most≤60) (hh:σ.heap (.list hL)=some (qay H)) (hl:σ.heap (.list lL)=some (qay (Lr H Q))) (hhl:hL<σ.next) {GG:Prop} (kk: ∀σ',qag Pm (d+2) (.f "_law_seen") [sd b,.ref (.list hL),.ref (.list lL)] σ=some (.bool true,σ')→Go noO noO σ σ'→GG):GG:=by
 have hlt:=S.lt
 have hHl:=S.hlen
 have hk0:(0:Int)≤(most:Int)- H.length:=Int.sub_nonneg_of_le (Int.ofNat_le.mpr hHl)
 have hk1:((most:Int)- H.length).toNat=most- H.length:=oql hHl
 let due:=(Lr H Q).take (most- H.length)
 have hdue:due.length≤most:=by show((Lr H Q).take _).length≤most;rw [List.length_take];exact oqh
 let s0:=σ.new .list (qay due)
 let s1:=s0.new .tup (.tup [.ref (.inst .cache (b+9)),.ref (.list σ.next)])
 let s2:=s1.new .list (qay g.kn)
 let s3:=s2.new .list (qay (g.kn.filter fun x=>x∉H))
 let s4:=s3.new .list (qay due.reverse)
 let s5:=s4.new .list (.list ((qei (g.kn.map fun n:Nat=>(n:Int))).map V.int))
 let s6:=s5.new .list (qay (H++due))
 let s7:=s6.new .list (.list ((qei ((H++due).map fun n:Nat=>(n:Int))).map V.int))
 let s8:=s7.new .list (.list [.int g.hits,.int g.rd,.int g.wr])
 let lA:=((l0.set "latest" (.ref (.list lL))).set "held" (.ref (.list hL))).set "side" (sd b)
 let lB:=(lA.set "cache" (.ref (.inst .cache (b+9)))).set "due" (.ref (.list σ.next))
 let lC:=lB.set "known" (.ref (.list (σ.next+2)))
 have hcr1:CR s1 O b most bl sz T g:=(S.cr.newMore rfl).newMore rfl
 have n1:s1.next=σ.next+2:=rfl
 have n2:s2.next=σ.next+3:=rfl
 have st1:evS (qag Pm (d+1)) (.asgTup ["cache","due"] [.item (.var "side") (.str "cache"),.sliceTo (.var "latest") (.bin .sub (.item (.var "side") (.str "most")) (.bi .len [.var "held"]))]) lA σ=some (.next,lB,s1):=by
  simp(decide:=true) [-String.reduceEq,-String.reduceNe,-BEq.rfl,lA,lB,sd,S.br.side,hh,hl,qay,hk0,hk1,hHl,s1,s0,due]
 have st2:evS (qag Pm (d+1)) (.asgVar "known" (.meth (.var "cache") "known" [])) lB s1=some (.next,lC,s2):=by
  have hk:=qqy (d:=d) hcr1
  simp(decide:=true) [-String.reduceEq,-String.reduceNe,-BEq.rfl,l0,lA,lB,lC,hcr1.cache,qbl,hk]
  exact⟨rfl,rfl⟩
 have hin:=qa7 H
 have gs:Go noO noO σ s0:=Go.newMore rfl
 have g0:Go noO noO s0 s1:=Go.newMore rfl
 have g1:Go noO noO s1 s2:=Go.newMore rfl
 have g2:Go noO noO s2 s3:=Go.newMore rfl
 have g3:Go noO noO s3 s4:=Go.newMore rfl
 have g4:Go noO noO s4 s5:=Go.newMore rfl
 have g5:Go noO noO s5 s6:=Go.newMore rfl
 have g6:Go noO noO s6 s7:=Go.newMore rfl
 have g7:Go noO noO s7 s8:=Go.newMore rfl
 have G2:Go noO noO σ s2:=(gs.trans g0).trans g1
 have hh2:s2.heap (.list hL)=some (qay H):=by
  exact(G2.eq (.list hL) hhl id).trans hh
 have hkn2:s2.heap (.list (σ.next+2))=some (qay g.kn):=qaz s1 .list _
 have hdue2:s2.heap (.list σ.next)=some (qay due):=((g0.trans g1).eq (.list σ.next) (Nat.lt_succ_self _) id).trans (qaz σ .list _)
 have hcomp:evE (qag Pm (d+1)) lC (.comp (.var "number") "number" 0 [.var "known"] (some (.cmp .notIn (.var "number") (.var "held")))) s2=some (.ref (.list s2.next),s3):=by
  have:=qmx (C:=qag Pm (d+1)) (l:=lC) (elt:= .var "number") (c:= .cmp .notIn (.var "number") (.var "held")) (x:="number") (k:=0) (its:= [.var "known"]) (σ:=s2) (σ₁:=s2) (ws:= [.ref (.list (σ.next+2))]) (src:=g.kn.map fun n:Nat=>V.int n)
   (f:=id) (p:=fun v=>match v with| .int i=> !decide (i∈H.map fun n:Nat=>(n:Int))|_=>false) rfl (by simp(decide:=true) [-String.reduceEq,-String.reduceNe,-BEq.rfl,lC,lB,lA]) (by simp [hkn2,qay]) (by simp [qar,qav,hkn2,qay]) (by
    intro v hv;refine qac (List.mem_map.mp hv) fun n hn e0_2=>?_;subst e0_2
    simp(decide:=true) [-String.reduceEq,-String.reduceNe,-BEq.rfl,lC,lB,lA,hh2,qay,hin]) (by
    intro v hv;simp(decide:=true) [-String.reduceEq,-String.reduceNe,-BEq.rfl])
  rw [this];have e:((g.kn.map fun n:Nat=>V.int n).filter fun v=>match v with| .int i=> !decide (i∈H.map fun n:Nat=>(n:Int))|_=>false)=(g.kn.filter fun x=>x∉H).map fun n:Nat=>V.int n:=by
   rw [List.filter_map];congr 1
   refine List.filter_congr fun x _=>?_
   simp only [Function.comp,qfi,decide_not]
  rw [e,List.map_id];rfl
 have hA:evE (qag Pm (d+1)) lC (.cmp .ne (.comp (.var "number") "number" 0 [.var "known"] (some (.cmp .notIn (.var "number") (.var "held")))) (.bi .listRev [.var "due"])) s2=some (.bool false,s4):=by
  rw [f_cmp,hcomp];have hdue3:s3.heap (.list σ.next)=some (qay due):=(g2.eq (.list σ.next) (by show σ.next<σ.next+3;(with_reducible exact qyh (by decide))) id).trans hdue2
  have i1:=qa7 (g.kn.filter fun x=>x∉H)
  have i2:=qa7 due.reverse
  have hf:=S.free
  have n3:s3.next=σ.next+4:=rfl
  have e3:s3.heap (.list (σ.next+3))=some (qay (g.kn.filter fun x=>x∉H)):=qaz s2 .list _
  have hne: ¬(σ.next+3=σ.next+4):=by lia
  rw [show(g.kn.filter fun x=>x∉H)=due.reverse from hf]at i1 e3;simp only [qay,List.map_reverse]at i1 e3 hdue3;simp(decide:=true) [-String.reduceEq,-String.reduceNe,-BEq.rfl,l0,lC,lB,lA,hdue3,n2,n3,e3,qay,i1,s4]
 have hB:evE (qag Pm (d+1)) lC (.cmp .ne (.bi .sorted [.var "known"]) (.bi .sorted [.bin .add (.var "held") (.var "due")])) s4=some (.bool false,s7):=by
  have n4:s4.next=σ.next+5:=rfl
  have n5:s5.next=σ.next+6:=rfl
  have n6:s6.next=σ.next+7:=rfl
  have k4:s4.heap (.list (σ.next+2))=some (qay g.kn):=((g2.trans g3).eq (.list (σ.next+2)) (by show σ.next+2<σ.next+3;(with_reducible exact qrj (by decide))) id).trans hkn2
  have h5:s5.heap (.list hL)=some (qay H):=(((g2.trans g3).trans g4).eq (.list hL) (by show hL<σ.next+3;(with_reducible exact oq7s ‹_›)) id).trans hh2
  have d5:s5.heap (.list σ.next)=some (qay due):=(((g2.trans g3).trans g4).eq (.list σ.next) (by show σ.next<σ.next+3;(with_reducible exact qyh (by decide))) id).trans hdue2
  have i1:=qa7 g.kn
  have i2:=qa7 (H++due)
  have hlk:g.kn.length<64:=by have:=S.cr.knm;(with_reducible exact oq29 ‹_› ‹_› (by decide))
  have hlh:H.length+due.length<64:=by
   show H.length+((Lr H Q).take _).length<64
   rw [List.length_take];exact Nat.lt_of_le_of_lt (oqo hHl hm) (by decide)
  have hlh2:H.length+due.length≤200000:=by lia
  have hperm:g.kn.Perm (H++due):=by
   have p1:=(List.filter_append_perm (fun x=>decide (x∈H)) g.kn).symm
   have p2:(g.kn.filter fun x=>decide (x∈H)).Perm H:=by
    rw [List.perm_ext_iff_of_nodup (S.cr.nd.sublist List.filter_sublist) S.hnd];intro a;rw [List.mem_filter];simp only [decide_eq_true_eq];exact⟨fun q=>q.2,fun q=>⟨S.hkn a q,q⟩⟩
   have e3:(g.kn.filter fun x=> !decide (x∈H))=due.reverse:=by
    rw [←S.free];refine List.filter_congr fun x _=>?_
    simp
   rw [e3]at p1;exact p1.trans (p2.append (List.reverse_perm due))
  have hsort:=sortI_perm (hperm.map fun n:Nat=>(n:Int))
  have i3:=qf8 id (qei (g.kn.map fun n:Nat=>(n:Int)))
  have i4:=qf8 id (qei ((H++due).map fun n:Nat=>(n:Int)))
  simp only [id,List.map_id']at i3 i4;rw [List.map_append]at i2;simp only [qay]at k4 h5 d5;have v1:evE (qag Pm (d+1)) lC (.bi .sorted [.var "known"]) s4=some (.ref (.list (σ.next+5)),s5):=by
   simp(decide:=true) [-String.reduceEq,-String.reduceNe,-BEq.rfl,l0,lC,lB,lA,k4,i1,hlk,n4,s5]
  have v2:evE (qag Pm (d+1)) lC (.bi .sorted [.bin .add (.var "held") (.var "due")]) s5=some (.ref (.list (σ.next+7)),s7):=by
   simp(decide:=true) [-String.reduceEq,-String.reduceNe,-BEq.rfl,l0,lC,lB,lA,h5,d5,hlh2,n5,i2,hlh,s6,s7,qay]
  have v5:s7.heap (.list (σ.next+5))=some (.list ((qei (g.kn.map fun n:Nat=>(n:Int))).map V.int)):=((g5.trans g6).eq (.list (σ.next+5)) (by show σ.next+5<σ.next+6;(with_reducible exact qrj (by decide))) id).trans (qaz s4 .list _)
  have v7:s7.heap (.list (σ.next+7))=some (.list ((qei ((H++due).map fun n:Nat=>(n:Int))).map V.int)):=qaz s6 .list _
  rw [f_cmp,v1,qsl,v2,qsm];simp only [qj7,qj8,qg7,qnl,qnm,qnn,qno,v5,v7,i3,i4,hsort,Option.map_some,decide_true,Bool.not_true,qsk]
 have G8:Go noO noO σ s8:=(((((G2.trans g2).trans g3).trans g4).trans g5).trans g6).trans g7
 have hcount:s8.heap (.list (b+16))=some (.list [.int g.hits,.int g.rd,.int g.wr]):=(G8.eq (.list (b+16)) (by show b+16<σ.next;(with_reducible exact qo6 ‹_› (by decide))) id).trans S.br.counts
 have hside:s8.heap (.dict (b+17))=σ.heap (.dict (b+17)):=G8.eq (.dict (b+17)) (by show b+17<σ.next;(with_reducible exact qo6 ‹_› (by decide))) id
 have hcache:s7.heap (.inst .cache (b+9))=some (qbl (b+1) most sz (b+10) (b+11) g.hits g.rd g.wr):=
  ((((((G2.trans g2).trans g3).trans g4).trans g5).trans g6).eq (.inst .cache (b+9)) (by show b+9<σ.next;(with_reducible exact qo6 ‹_› (by decide))) id).trans S.cr.cache
 refine kk s8 ?_ G8
 rw [qlv];show qez (qbk (qag Pm (d+1)) D__law_seen.body lA σ)=_
 unfold D__law_seen;rw [qap st1,qap st2];rw [qap (l':=lC) (σ':=s7) (by
  rw [s_ifs,f_or,hA,kOr_f,hB,kIf_f];rfl)]
 have n7:s7.next=σ.next+8:=rfl
 have e8:s8.heap (.list (σ.next+8))=some (.list [.int g.hits,.int g.rd,.int g.wr]):=qaz s7 .list _
 have hret:evE (qag Pm (d+1)) lC (.cmp .eq (.lst [.attr (.var "cache") "hits",.attr (.var "cache") "reads",.attr (.var "cache") "writes"]) (.item (.var "side") (.str "counts"))) s7=some (.bool true,s8):=by
  have hside':=S.br.side
  rw [←hside]at hside';have hlst:evE (qag Pm (d+1)) lC (.lst [.attr (.var "cache") "hits",.attr (.var "cache") "reads",.attr (.var "cache") "writes"]) s7=some (.ref (.list (σ.next+8)),s8):=by
   simp(decide:=true) [-String.reduceEq,-String.reduceNe,-BEq.rfl,l0,lC,lB,lA,hcache,qbl,n7,s8]
  have hitem:evE (qag Pm (d+1)) lC (.item (.var "side") (.str "counts")) s8=some (.ref (.list (b+16)),s8):=by
   simp(decide:=true) [-String.reduceEq,-String.reduceNe,-BEq.rfl,l0,lC,lB,lA,sd,hside']
  rw [qrk,hlst];simp only [bind];rw [hitem];simp only [qj7,qj8,qg7,qnl,qnm,qnn,qno,e8,hcount];simp [ints?,qe1]
 rw [qbv,ql6,hret];rfl
end
end Mine.B
end
noncomputable section
namespace Mine.B
section
variable {d:Nat} {σ:St}
theorem qcz (n:Nat):qbm 0 n=(List.range n).map fun i:Nat=>V.int i:=by
 unfold qbm;rw [show((n:Int)- 0).toNat=n by lia];exact List.map_congr_left fun i _=>by rw [Int.zero_add]
theorem qai {C:Calls} {l:Locs} {e:ME} {r:List ME} {σ σ₁ σ₂:St} {v:V} {vs:List V} (h1:evE C l e σ=some (v,σ₁)) (h2:qdc C l r σ₁=some (vs,σ₂)):qdc C l (e::r) σ=some (v::vs,σ₂):=by
 rw [ql7,h1];show bind (qdc C l r σ₁) _=_
 rw [h2];rfl
theorem qa4 {C:Calls} {l:Locs} {x:String} {v:V} {σ:St} (h:l x=some v):evE C l (.var x) σ=some (v,σ):=by rw [qyo,h];rfl
theorem qjj {C:Calls} {l:Locs} {elt sze:ME} {sz:Nat} {f:Nat→Nat} (h0:l ".0" =none) (hs:evE C l sze σ=some (.int sz,σ)) (hsz:sz≤64) (hf: ∀i,i<sz→f i<256)
  (he: ∀i:Nat,i<sz→evE C (l.set "at" (.int i)) elt σ=some (.int (f i),σ)) {GG:Prop} (kk: ∀bs:List UInt8,bs.length=sz→(evE C l (.bi .bytes [.comp elt "at" 1 [sze] none]) σ=some (.bytes bs,σ.new .list (.list ((List.range sz).map fun i:Nat=>V.int (f i)))))→GG):GG:=by
 have hsz1:(-100000:Int)≤sz:=by lia
 have hsz2:(sz:Int)≤100000:=by lia
 have hc:=qf4 (C:=C) (l:=l) (elt:=elt) (x:="at") (k:=1) (its:= [sze]) (σ:=σ) (σ₁:=σ) (ws:= [.int sz]) (src:=qbm 0 sz) (f:=fun v=>match v with| .int i=> .int (f i.toNat)|_=> .none) h0 (by rw [ql7,hs];rfl) (by simp [hsz1,hsz2]) rfl (by
  intro v hv;rw [qcz]at hv;refine qac (List.mem_map.mp hv) fun i hi e0_2=>?_;subst e0_2
  rw [he i (List.mem_range.mp hi)];simp)
 have e:(qbm 0 sz).map (fun v=>match v with| .int i=>V.int (f i.toNat)|_=>V.none)=(List.range sz).map fun i:Nat=>V.int (f i):=by
  rw [qcz,List.map_map];exact List.map_congr_left fun i _=>by simp [Function.comp]
 rw [e]at hc;have hi:=qf8 (fun i:Nat=>(f i:Int)) (List.range sz)
 have hall: ∀x∈List.range sz,((f x:Int)<256):=fun x hx=>by have:=hf x (List.mem_range.mp hx);lia
 refine kk (((List.range sz).map fun i:Nat=>(f i:Int)).map qkp) (by simp) ?_
 rw [g_bi,ql7,hc];have hall2:(∀x:Nat,x<sz→f x<256)=True:=eq_true hf
 have hall3: ∀x,x<sz→(f x:Int)<256:=fun x hx=>by have:=hf x hx;lia
 show biV .bytes [.ref (.list σ.next)] (σ.new .list (.list ((List.range sz).map fun i:Nat=>V.int (f i))))=_
 rw [bi_byL,qam,if_pos rfl,byL_ok,hi,byI_ok,if_pos];refine⟨?_,by simp;(with_reducible assumption)⟩
 rw [List.all_eq_true];intro x hx;refine qac (List.mem_map.mp hx) fun i hi e1_2=>?_;subst e1_2
 have:=hf i (List.mem_range.mp hi)
 simp
 lia
noncomputable def DskN (σ:St) (fD bl sz:Nat):Prop:= ∃r,σ.heap (.inst .disk fD)=some (.inst (("blocks",.int bl)::("size",.int sz)::r))
theorem qsy {l:Locs} {sz n way p base fD:Nat} {r:List (String×V)} (hsz:sz≤64) (h0:l ".0" =none) (h1:l "way" =some (.int way)) (h2:l "number" =some (.int n)) (h3:l "place" =some (.int p)) (h4:l "base" =some (.int base)) (h5:l "disk" =some (.ref (.inst .disk fD)))
  {bl:Nat} (hD:σ.heap (.inst .disk fD)=some (.inst (("blocks",.int bl)::("size",.int sz)::r))) {GG:Prop} (kk: ∀(oct:List UInt8) (σ':St) (t:Nat),qbk (qag Pm (d+1)) [.ret (.tup [.var "way",.var "number",.var "place",.bi .bytes [.comp (.bin .add (.int 128) (.bin .mod (.bin .add (.var "base") (.bin .mul (.int 5) (.var "at"))) (.int 128))) "at" 1 [.attr (.var "disk") "size"] none]])] l σ=some (.ret (.ref (.tup t)),l,σ')→oct.length=sz→σ'.heap (.tup t)=some (qbh way n p oct)→σ.next≤t→t<σ'.next→Go noO noO σ σ'→GG):GG:=by
 refine qjj (C:=qag Pm (d+1)) (l:=l) (sze:= .attr (.var "disk") "size") (elt:= .bin .add (.int 128) (.bin .mod (.bin .add (.var "base") (.bin .mul (.int 5) (.var "at"))) (.int 128))) (sz:=sz) (f:=fun i=>128+(base+5*i) % 128) (σ:=σ) h0 (by simp(decide:=true) [-String.reduceEq,-String.reduceNe,-BEq.rfl,h5,hD]) hsz
  (fun i _=>by lia) (fun i hi=>by
   have e:((base:Int)+5*(i:Int)).fmod 128=(((base+5*i) % 128:Nat):Int):=by
    have:=qnq (base+5*i) 128
    rw [←this];congr 1
   have hi2:i<18446744073709551616:=by(with_reducible exact oq30 ‹_› ‹_› (by decide))
   simp(decide:=true) [-String.reduceEq,-String.reduceNe,-BEq.rfl,h4,e,hi2]) fun bs hb he=>?_
 refine kk bs ((σ.new .list (.list ((List.range sz).map fun i:Nat=>V.int ((128+(base+5*i) % 128:Nat):Int)))).new .tup (qbh way n p bs)) (σ.next+1) ?_ hb (qaz _ .tup _) (Nat.le_succ _) (Nat.lt_succ_self _) ((Go.newMore rfl).trans (Go.newMore rfl))
 have e1:qdc (qag Pm (d+1)) l [.var "way",.var "number",.var "place",.bi .bytes [.comp (.bin .add (.int 128) (.bin .mod (.bin .add (.var "base") (.bin .mul (.int 5) (.var "at"))) (.int 128))) "at" 1 [.attr (.var "disk") "size"] none]] σ=
   some ([.int way,.int n,.int p,.bytes bs],σ.new .list (.list ((List.range sz).map fun i:Nat=>V.int ((128+(base+5*i) % 128:Nat):Int)))):=by
  exact qai (qa4 h1) (qai (qa4 h2) (qai (qa4 h3) (qai he (by rw [qby]))))
 rw [qbv,ql6,qyr,e1];rfl
noncomputable def ways:List Nat:= [0,0,0,0,1,2,2,4,5,5,6,7]
theorem qsz: ∀r,r<12→ ∃w,ways[r]? =some w∧w≤7∧w≠3:=by
 intro r hr;have: ∀r,r<12→(ways[r]?).any (fun w=>decide (w≤7∧w≠3))=true:=by decide
 have:=this r hr
 cases h:ways[r]? with
 |none=>rw [h]at this;cases this
 |some w=>rw [h]at this;exact⟨w,rfl,by simpa using this⟩
theorem Well.keep {σ':St} {w K:Nat} (W:Well σ w K) (h:σ'.heap (.list w)=σ.heap (.list w)):Well σ' w K:=by
 refine qga W fun a b c h1 h2=>?_
 exact⟨a,b,c,h.trans h1,h2⟩
theorem qs0 {w K fD bl sz least hL:Nat} {H:List Nat} (W:Well σ w K) (hK:K≤9000) (hw0:w≠0) (D:DskN σ fD bl sz) (hh:σ.heap (.list hL)=some (qay H)) (hwl:w<σ.next) (hhl:hL<σ.next) (hfl:fD<σ.next) (hne:hL≠w) (hfw:fD≠w)
  (hbl:1≤bl) (hbl2:bl<1000) (hsz:1≤sz) (hsz2:sz≤64) (hl1:1≤least) (hHl:H.length≤least) (hHb: ∀x∈H,x<bl)
  {GG:Prop} (kk: ∀(way n p t:Nat) (oct:List UInt8) (σ':St),qag Pm (d+2) (.f "_law_deed") [.ref (.list w),.ref (.inst .disk fD),.int least,.ref (.list hL)] σ=some (.ref (.tup t),σ')→σ'.heap (.tup t)=some (qbh way n p oct)→
   σ.next≤t→t<σ'.next→way≤7→n<bl→p<sz→oct.length=sz→(way=2→n∉H)→(way=3→n∈H)→(way<6→n∈H∨H.length<least)→Well σ' w (K+4)→Go (one w) (one w) σ σ'→GG):GG:=by
 refine qaj D fun dr hD=>?_
 have hD0: ∀{s:St},Go (one w) (one w) σ s→s.heap (.inst .disk fD)=some (.inst (("blocks",.int bl)::("size",.int sz)::dr)):=fun {s} g=>(g.eq (.inst .disk fD) hfl hfw).trans hD
 have hH0: ∀{s:St},Go (one w) (one w) σ s→s.heap (.list hL)=some (qay H):=fun g=>(g.eq (.list hL) hhl hne).trans hh
 let s0:=σ.new .list (qay ways)
 have g0:Go (one w) (one w) σ s0:=Go.newMore rfl
 have W0:Well s0 w K:=W.keep (by rw [show s0.heap (.list w)=σ.heap (.list w)from(Go.newMore (O:=noO) rfl).eq (.list w) hwl id])
 refine qf7 (d:=d) (m:=12) W0 (by decide) (by decide) (by(with_reducible exact Nat.le_trans ‹_› (by decide))) hw0 fun r1 s1 d1 hr1 W1 G1 n1=>?_
 refine qf7 (d:=d) (m:=bl) W1 hbl hbl2 (by(with_reducible exact oq10 ‹_› (by decide))) hw0 fun r2 s2 d2 hr2 W2 G2 n2=>?_
 refine qao (qsz r1 hr1) fun w0 hw0g hw7 hw3=>?_
 let s3:=s2.new .tup (.tup [.int w0,.int r2])
 have G01:Go (one w) (one w) σ s1:=g0.trans G1
 have G02:Go (one w) (one w) σ s2:=G01.trans G2
 have G03:Go (one w) (one w) σ s3:=G02.trans (Go.newMore rfl)
 have W3:Well s3 w (K+1+1):=W2.keep (by rw [show s3.heap (.list w)=s2.heap (.list w)from(Go.newMore (O:=noO) rfl).eq (.list w) (by rw [show(Loc.list w).n=w from rfl];have:=G02.le;(with_reducible exact Nat.lt_of_lt_of_le ‹_› ‹_›)) id])
 refine qf7 (d:=d) (m:=sz) W3 hsz (by(with_reducible exact Nat.lt_of_le_of_lt ‹_› (by decide))) (by lia) hw0 fun r3 s4 d3 hr3 W4 G4 n4=>?_
 refine qf7 (d:=d) (m:=128) W4 (by decide) (by decide) (by lia) hw0 fun r4 s5 d4 hr4 W5 G5 n5=>?_
 let s6:=s5.new .tup (.tup [.int r3,.int r4])
 have G04:Go (one w) (one w) σ s4:=G03.trans G4
 have G05:Go (one w) (one w) σ s5:=G04.trans G5
 have G06:Go (one w) (one w) σ s6:=G05.trans (Go.newMore rfl)
 have W6:Well s6 w (K+4):=W5.keep (by rw [show s6.heap (.list w)=s5.heap (.list w)from(Go.newMore (O:=noO) rfl).eq (.list w) (by rw [show(Loc.list w).n=w from rfl];have:=G05.le;(with_reducible exact Nat.lt_of_lt_of_le ‹_› ‹_›)) id])
 have d1':qag Pm (d+1) (.f "_law_draw") [.ref (.list w),.int 12] s0=some (.int r1,s1):=d1
 have d4':qag Pm (d+1) (.f "_law_draw") [.ref (.list w),.int 128] s4=some (.int r4,s5):=d4
 let lA:=(((l0.set "held" (.ref (.list hL))).set "least" (.int least)).set "disk" (.ref (.inst .disk fD))).set "well" (.ref (.list w))
 let lB:=(lA.set "way" (.int w0)).set "number" (.int r2)
 let lC:=(lB.set "place" (.int r3)).set "base" (.int r4)
 have hways:s1.heap (.list σ.next)=some (qay ways):=(G1.eq (.list σ.next) (Nat.lt_succ_self _) (by show ¬σ.next=w;(with_reducible exact Nat.ne_of_gt ‹_›))).trans (qaz σ .list _)
 have hwl12:((ways.map fun n:Nat=>V.int n))[r1]? =some (.int w0):=by rw [List.getElem?_map,hw0g];rfl
 have D1:s1.heap (.inst .disk fD)=some (.inst (("blocks",.int bl)::("size",.int sz)::dr)):=hD0 G01
 have D3:s3.heap (.inst .disk fD)=some (.inst (("blocks",.int bl)::("size",.int sz)::dr)):=hD0 G03
 have st1:evS (qag Pm (d+1)) (.asgTup ["way","number"] [.item (.lst [.int 0,.int 0,.int 0,.int 0,.int 1,.int 2,.int 2,.int 4,.int 5,.int 5,.int 6,.int 7]) (.call "_law_draw" [.var "well",.int 12]),.call "_law_draw" [.var "well",.attr (.var "disk") "blocks"]]) lA σ=some (.next,lB,s3):=by
  have e1:evE (qag Pm (d+1)) lA (.lst [.int 0,.int 0,.int 0,.int 0,.int 1,.int 2,.int 2,.int 4,.int 5,.int 5,.int 6,.int 7]) σ=some (.ref (.list σ.next),s0):=by
   simp(decide:=true) [-String.reduceEq,-String.reduceNe,-BEq.rfl,s0,qay,ways]
  have e2:evE (qag Pm (d+1)) lA (.call "_law_draw" [.var "well",.int 12]) s0=some (.int r1,s1):=by
   simp(decide:=true) [-String.reduceEq,-String.reduceNe,-BEq.rfl,lA,d1']
  have e3:evE (qag Pm (d+1)) lA (.item (.lst [.int 0,.int 0,.int 0,.int 0,.int 1,.int 2,.int 2,.int 4,.int 5,.int 5,.int 6,.int 7]) (.call "_law_draw" [.var "well",.int 12])) σ=some (.int w0,s1):=by
   rw [qyp,e1];simp only [bind];rw [e2];simp only [qqt,hways,qay,itL_ok];rw [if_pos (by(with_reducible exact Int.natCast_nonneg _)),show((r1:Int)).toNat=r1 by lia,hwl12];rfl
  have e4:evE (qag Pm (d+1)) lA (.call "_law_draw" [.var "well",.attr (.var "disk") "blocks"]) s1=some (.int r2,s2):=by
   simp(decide:=true) [-String.reduceEq,-String.reduceNe,-BEq.rfl,lA,D1,d2]
  rw [qet,qai e3 (qai e4 qby)];rfl
 have st2:evS (qag Pm (d+1)) (.asgTup ["place","base"] [.call "_law_draw" [.var "well",.attr (.var "disk") "size"],.call "_law_draw" [.var "well",.int 128]]) lB s3=some (.next,lC,s6):=by
  have e1:evE (qag Pm (d+1)) lB (.call "_law_draw" [.var "well",.attr (.var "disk") "size"]) s3=some (.int r3,s4):=by
   simp(decide:=true) [-String.reduceEq,-String.reduceNe,-BEq.rfl,lB,lA,D3,d3]
  have e2:evE (qag Pm (d+1)) lB (.call "_law_draw" [.var "well",.int 128]) s4=some (.int r4,s5):=by
   simp(decide:=true) [-String.reduceEq,-String.reduceNe,-BEq.rfl,lB,lA,d4']
  rw [qet,qai e1 (qai e2 qby)];rfl
 have hin:=qa7 H
 have h6:=hH0 G06
 have wrap: ∀(way n:Nat) (s7:St) (l7:Locs),qbk (qag Pm (d+1)) (D__law_deed.body.drop 2) lC s6=qbk (qag Pm (d+1)) (D__law_deed.body.drop 3) l7 s7→Go noO noO s6 s7→l7 ".0" =none→l7 "way" =some (.int way)→l7 "number" =some (.int n)→l7 "place" =some (.int r3)→l7 "base" =some (.int r4)→l7 "disk" =some (.ref (.inst .disk fD))→
   way≤7→n<bl→(way=2→n∉H)→(way=3→n∈H)→(way<6→n∈H∨H.length<least)→
   GG:=by
  intro way n s7 l7 hst hg z1 z2 z3 z4 z5 z6 c1 c2 c3 c4 c5;have hD7:s7.heap (.inst .disk fD)=some (.inst (("blocks",.int bl)::("size",.int sz)::dr)):=(hg.eq (.inst .disk fD) (Nat.lt_of_lt_of_le hfl G06.le) id).trans (hD0 G06)
  refine qsy (d:=d) hsz2 z1 z2 z3 z4 z5 z6 hD7 fun oct s8 t e1 e2 e3 e4 e5 e6=>?_
  have G8:Go noO noO s6 s8:=hg.trans e6
  have G8':Go (one w) (one w) s6 s8:=⟨G8.le,fun l h1 _=>G8.eq l h1 id,fun k h=> .inl h⟩
  refine kk way n r3 t oct s8 ?_ e3 (Nat.le_trans (Nat.le_trans G06.le hg.le) e4) e5 c1 c2 hr3 e2 c3 c4 c5 (W6.keep (G8.eq (.list w) (Nat.lt_of_lt_of_le hwl G06.le) id)) (G06.trans G8')
  rw [qlu];show qez (qbk (qag Pm (d+1)) (_::_::D__law_deed.body.drop 2) lA σ)=_
  rw [qap st1,qap st2,hst];show qez (qbk (qag Pm (d+1)) [.ret _] l7 s7)=_
  rw [e1];rfl
 have hdrop:D__law_deed.body.drop 2= [D__law_deed.body.getD 2 .retNone,D__law_deed.body.getD 3 .retNone]:=rfl
 by_cases hc1:w0<6∧r2∉H∧H.length=least
 ·refine qeg hc1 fun q1 q2 q3=>?_
  have q1':(w0:Int)<6:=by lia
  have hmod:r2 % least<H.length:=by rw [q3];exact Nat.mod_lt _ hl1
  have hleast: ¬(least:Int)=0:=by lia
  have hleast': ¬least=0:=by lia
  have hget:(H.map fun n:Nat=>V.int n)[r2 % least]? =some (.int H[r2 % least]):=by rw [List.getElem?_map,List.getElem?_eq_getElem hmod];rfl
  have hfm:=qnq r2 least
  refine wrap 3 H[r2 % least] (s6.new .tup (.tup [.int 3,.int H[r2 % least]])) ((lC.set "way" (.int 3)).set "number" (.int H[r2 % least])) ?_ (Go.newMore rfl) rfl rfl rfl rfl rfl rfl (by decide) (hHb _ (List.getElem_mem hmod)) (fun q=>by lia) (fun _=>List.getElem_mem hmod) (fun _=> .inl (List.getElem_mem hmod))
  rw [hdrop];refine qap ?_
  have hz1:(0:Int)≤(r2:Int) % (least:Int):=Int.emod_nonneg _ hleast
  have hz2:((r2:Int) % (least:Int)).toNat=r2 % least:=by rw [←Int.natCast_emod];rfl
  have hz3:H[r2 % least]? =some H[r2 % least]:=List.getElem?_eq_getElem hmod
  simp(decide:=true) [-String.reduceEq,-String.reduceNe,-BEq.rfl,D__law_deed,lC,lB,lA,q1',h6,qay,hin,qbx,q2,q3,hleast,hleast',hfm,hz1,hz2,hz3]
 ·by_cases hc2:w0=2∧r2∈H
  ·refine qa1 hc2 fun e12_0 q2=>?_;subst e12_0
   refine wrap 3 r2 s6 (lC.set "way" (.int 3)) ?_ (.refl ..) rfl rfl rfl rfl rfl rfl (by decide) hr2 (fun q=>by lia) (fun _=>q2) (fun _=> .inl q2)
   rw [hdrop];refine qap ?_
   simp(decide:=true) [-String.reduceEq,-String.reduceNe,-BEq.rfl,D__law_deed,lC,lB,lA,h6,qay,hin,qbx,q2]
  ·refine wrap w0 r2 s6 lC ?_ (.refl ..) rfl rfl rfl rfl rfl rfl hw7 hr2 (fun q q2=>hc2 ⟨q,q2⟩) (fun q=>absurd q hw3) (fun q=>by
    by_cases z:r2∈H
    ·exact .inl z
    ·refine .inr (Nat.lt_of_le_of_ne hHl fun z2=>hc1 ⟨q,z,z2⟩))
   rw [hdrop];refine qap ?_
   by_cases q6:w0<6
   ·have q1':(w0:Int)<6:=by lia
    by_cases q2:r2∈H
    ·have q3: ¬w0=2:=fun q=>hc2 ⟨q,q2⟩
     have q3': ¬(w0:Int)=2:=by lia
     simp(decide:=true) [-String.reduceEq,-String.reduceNe,-BEq.rfl,D__law_deed,lC,lB,lA,h6,qay,hin,qbx,q1',q2,q3']
    ·have q4: ¬H.length=least:=fun z2=>hc1 ⟨q6,q2,z2⟩
     have q4': ¬(H.length:Int)=least:=by(with_reducible exact qo7 ‹_›)
     by_cases q3:w0=2
     ·subst q3;simp(decide:=true) [-String.reduceEq,-String.reduceNe,-BEq.rfl,D__law_deed,lC,lB,lA,h6,qay,hin,qbx,q2,q4,q4']
     ·have q3': ¬(w0:Int)=2:=by lia
      simp(decide:=true) [-String.reduceEq,-String.reduceNe,-BEq.rfl,D__law_deed,lC,lB,lA,h6,qay,hin,qbx,q1',q2,q4,q4',q3']
   ·have q1': ¬(w0:Int)<6:=by lia
    have q3': ¬(w0:Int)=2:=by lia
    simp(decide:=true) [-String.reduceEq,-String.reduceNe,-BEq.rfl,D__law_deed,lC,lB,lA,q1',q3']
end
end Mine.B
end
noncomputable section
namespace Mine.B
theorem qm4 {C:Calls} {l:Locs} {c:Cls} {es:List ME} {σ σ1 σ2:St} {vs:List V} (h1:qdc C l es σ=some (vs,σ1)) (h2:C (.m c "__init__") (.ref (.inst c σ1.next)::vs) (σ1.new (.inst c) (.inst []))=some (.none,σ2)):
  evE C l (.new c es) σ=some (.ref (.inst c σ1.next),σ2):=by
 rw [g_new,h1];show bind (C _ _ _) _=_
 rw [h2];rfl
theorem qh7 {O:Nat→Prop} {σ σ':St} (g:Go noO noO σ σ'):Go O O σ σ':=⟨g.le,fun l h1 _=>g.eq l h1 id,fun k h=> .inl h⟩
theorem qq5 {σ σ1 σ2:St} {i:Nat} (g1:Go noO noO σ σ1) (g2:Go (one i) (one i) σ1 σ2) (hi:σ.next≤i):Go noO noO σ σ2:=
 ⟨Nat.le_trans g1.le g2.le,fun l h1 h2=>(g2.eq l (Nat.lt_of_lt_of_le h1 g1.le) (by intro q;have q:l.n=i:=q;lia)).trans (g1.eq l h1 h2),fun k h=> .inl h⟩
section
variable {d:Nat} {σ:St}
theorem ql3 {i bl sz:Nat} (h:σ.heap (.inst .disk i)=some (.inst [])) (hb:1≤bl) (hs:1≤sz) (hi:i<σ.next) {GG:Prop} (kk: ∀σ',qag Pm (d+1) (.m .disk "__init__") [.ref (.inst .disk i),.int bl,.int sz] σ=some (.none,σ')→σ'.heap (.inst .disk i)=some (qbo bl sz σ.next (σ.next+1) (σ.next+2) 0 0)→σ'.heap (.dict σ.next)=some (.dictI [])→σ'.heap (.dict (σ.next+1))=some (.dictI [])→σ'.heap (.list (σ.next+2))=some (.list [])→σ'.next=σ.next+3→Go (one i) (one i) σ σ'→GG):GG:=by
 have h1: ¬(bl:Int)<1:=by lia
 have h2: ¬(sz:Int)<1:=by lia
 let o1:List (String×V):= [("blocks",.int bl)]
 let o2:=o1++ [("size",.int sz)]
 let o3:=o2++ [("kept",.ref (.dict σ.next))]
 let o4:=o3++ [("latest",.ref (.dict (σ.next+1)))]
 let o5:=o4++ [("unflushed",.ref (.list (σ.next+2)))]
 let o6:=o5++ [("writes",.int 0)]
 let o7:=o6++ [("flushes",.int 0)]
 let o8:=o7++ [("last",.none)]
 let o9:=o8++ [("last_flush",.none)]
 let o10:=o9++ [("is_dead",.bool false)]
 let L:Loc:= .inst .disk i
 let s1:=(σ.set L (.inst o1)).set L (.inst o2)
 let s2:=(s1.new .dict (.dictI [])).set L (.inst o3)
 let s3:=(s2.new .dict (.dictI [])).set L (.inst o4)
 let s4:=(s3.new .list (.list [])).set L (.inst o5)
 let s5:=((((s4.set L (.inst o6)).set L (.inst o7)).set L (.inst o8)).set L (.inst o9)).set L (.inst o10)
 have gset: ∀{s:St} (o:MObj),Go (one i) (one i) s (s.set L o):=fun o=>Go.set rfl
 have gnew: ∀{s:St} {mk:Nat→Loc} (o:MObj),(mk s.next).n=s.next→Go (one i) (one i) s (s.new mk o):=fun o hmk=>Go.newMore hmk
 refine kk s5 ?_ ?_ ?_ ?_ ?_ rfl (((((((((((((gset _).trans (gset _)).trans (gnew _ rfl)).trans (gset _)).trans (gnew _ rfl)).trans (gset _)).trans (gnew _ rfl)).trans (gset _)).trans (gset _)).trans (gset _)).trans (gset _)).trans (gset _)).trans (gset _))
 ·rw [qg5];simp(decide:=true) [-String.reduceEq,-String.reduceNe,-BEq.rfl,l0,qck,h1,h2,h,s5,s4,s3,s2,s1,o10,o9,o8,o7,o6,o5,o4,o3,o2,o1,L]
 ·simp [s5,L,qaa,o10,o9,o8,o7,o6,o5,o4,o3,o2,o1,qbo]
 ·simp [s5,s4,s3,s2,s1,L,qaa,qam,qae,qaf]
 ·simp [s5,s4,s3,s2,s1,L,qaa,qam,qae,qaf]
 ·simp [s5,s4,s3,s2,s1,L,qaa,qam,qae,qaf]
theorem qq6 {i dk most bl sz k l u dw fl:Nat} (h:σ.heap (.inst .cache i)=some (.inst [])) (hd:σ.heap (.inst .disk dk)=some (qbo bl sz k l u dw fl)) (hm:1≤most) (hi:i<σ.next) {GG:Prop} (kk: ∀σ',qag Pm (d+1) (.m .cache "__init__") [.ref (.inst .cache i),.ref (.inst .disk dk),.int most] σ=some (.none,σ')→σ'.heap (.inst .cache i)=some (qbl dk most sz σ.next (σ.next+1) 0 0 0)→σ'.heap (.list σ.next)=some (.list [])→σ'.heap (.dict (σ.next+1))=some (.dictI [])→σ'.next=σ.next+2→(∀x:Loc,x≠ .inst .cache i→x.n<σ.next→σ'.heap x=σ.heap x)→GG):GG:=by
 have h1: ¬(most:Int)<1:=by lia
 let o1:List (String×V):= [("disk",.ref (.inst .disk dk))]
 let o2:=o1++ [("most",.int most)]
 let o3:=o2++ [("size",.int sz)]
 let o4:=o3++ [("row",.ref (.list σ.next))]
 let o5:=o4++ [("by_number",.ref (.dict (σ.next+1)))]
 let o6:=o5++ [("hits",.int 0)]
 let o7:=o6++ [("reads",.int 0)]
 let o8:=o7++ [("writes",.int 0)]
 let L:Loc:= .inst .cache i
 let s1:=((σ.set L (.inst o1)).set L (.inst o2)).set L (.inst o3)
 let s2:=(s1.new .list (.list [])).set L (.inst o4)
 let s3:=(s2.new .dict (.dictI [])).set L (.inst o5)
 let s4:=((s3.set L (.inst o6)).set L (.inst o7)).set L (.inst o8)
 refine kk s4 ?_ ?_ ?_ ?_ rfl (fun x hx hlt=>?_)
 ·rw [qgp];simp(decide:=true) [-String.reduceEq,-String.reduceNe,-BEq.rfl,l0,qcc,h1,h,hd,qbo,s4,s3,s2,s1,o8,o7,o6,o5,o4,o3,o2,o1,L]
 ·simp [s4,L,qaa,o8,o7,o6,o5,o4,o3,o2,o1,qbl]
 ·simp [s4,s3,s2,s1,L,qaa,qam,qae,qaf]
 ·simp [s4,s3,s2,s1,L,qaa,qam,qae,qaf]
 ·have e1:x≠ .list σ.next:=by rintro rfl;exact Nat.lt_irrefl _ hlt
  have e2:x≠ .dict (σ.next+1):=by rintro rfl;have:σ.next+1<σ.next:=hlt;lia
  have hx':x≠L:=hx
  simp [s4,s3,s2,s1,qaa,qam,qae,qaf,hx',e1,e2]
structure FD (σ:St) (fD kd lt u bl sz T:Nat) (B:Nat→List UInt8):Prop where
 disk: ∃dw,σ.heap (.inst .disk fD)=some (qbo bl sz kd lt u dw 1)
 kept: ∃ks,σ.heap (.dict kd)=some (.dictI ks)∧ks.length≤T∧ ∀n:Nat,n<bl→qa8 n ks=some (.bytes (B n))
 lat: ∃ks,σ.heap (.dict lt)=some (.dictI ks)∧ks.length≤T∧ ∀n:Nat,n<bl→qa8 n ks=some (.bytes (B n))
 unf:σ.heap (.list u)=some (.list [])
 len: ∀n,n<bl→(B n).length=sz
 lt1:fD<σ.next
 lt2:kd<σ.next
 lt3:lt<σ.next
 lt4:u<σ.next
theorem FD.go {σ':St} {fD kd lt u bl sz T:Nat} {B:Nat→List UInt8} (F:FD σ fD kd lt u bl sz T B) (g: ∀l:Loc,(l.n=fD∨l.n=kd∨l.n=lt∨l.n=u)→σ'.heap l=σ.heap l) (hle:σ.next≤σ'.next):FD σ' fD kd lt u bl sz T B where
 disk:=F.disk.imp fun _ q=>(g _ (.inl rfl)).trans q
 kept:=F.kept.imp fun _ q=>⟨(g _ (.inr (.inl rfl))).trans q.1,q.2⟩
 lat:=F.lat.imp fun _ q=>⟨(g _ (.inr (.inr (.inl rfl)))).trans q.1,q.2⟩
 unf:=(g _ (.inr (.inr (.inr rfl)))).trans F.unf
 len:=F.len
 lt1:=Nat.lt_of_lt_of_le F.lt1 hle
 lt2:=Nat.lt_of_lt_of_le F.lt2 hle
 lt3:=Nat.lt_of_lt_of_le F.lt3 hle
 lt4:=Nat.lt_of_lt_of_le F.lt4 hle
theorem qs1 {fD kd lt u bl sz T:Nat} {B:Nat→List UInt8} (F:FD σ fD kd lt u bl sz T B) (hb:1≤bl) (hs:1≤sz) {GG:Prop} (kk: ∀σ' ks,qag Pm (d+3) (.m .disk "copy") [.ref (.inst .disk fD)] σ=some (.ref (.inst .disk (σ.next+1)),σ')→σ'.heap (.inst .disk (σ.next+1))=some (qbo bl sz (σ.next+7) (σ.next+8) (σ.next+4) 0 0)→σ'.heap (.dict (σ.next+8))=some (.dictI ks)→ks.length≤T→(∀n:Nat,n<bl→qa8 n ks=some (.bytes (B n)))→σ'.heap (.list (σ.next+4))=some (.list [])→σ'.next=σ.next+9→Go noO noO σ σ'→GG):GG:=by
 refine qaj F.disk fun dw hD=>?_
 refine qao F.kept fun ks hk hkT hkg=>?_
 have hu:=F.unf
 let b:=σ.next
 let a0:=σ.new .list (.list [])
 let a1:=a0.new (.inst .disk) (.inst [])
 refine ql3 (d:=d) (σ:=a1) (i:=b+1) (bl:=bl) (sz:=sz) (qaz a0 (.inst .disk) _) hb hs (Nat.lt_succ_self _) fun a2 r2 c1 c2 c3 c4 n2 g2=>?_
 have n2:a2.next=b+5:=n2
 have e1:a1.next=b+2:=rfl
 rw [e1]at c1 c2 c3 c4;have G1:Go noO noO σ a1:=(Go.newMore rfl).trans (Go.newMore rfl)
 have G2:Go noO noO σ a2:=qq5 G1 g2 (Nat.le_succ _)
 have hch:a2.heap (.list b)=some (.list []):=(g2.eq (.list b) (by show b<b+2;(with_reducible exact qyh (by decide))) (by show ¬b=b+1;lia)).trans (((Go.newMore (O:=noO) rfl).eq (.list b) (Nat.lt_succ_self _) id).trans (qaz σ .list _))
 let a3:=a2.new .list (.list [])
 let a4:=a3.new .tup (.tup [.ref (.inst .disk (b+1)),.ref (.list (b+5))])
 let a5:=a4.new .dict (.dictI ks)
 let a6:=a5.set (.inst .disk (b+1)) (qbo bl sz (b+7) (b+3) (b+4) 0 0)
 let a7:=a6.new .dict (.dictI ks)
 let a8:=a7.set (.inst .disk (b+1)) (qbo bl sz (b+7) (b+8) (b+4) 0 0)
 let lA:=(l0.set "chosen" (.ref (.list b))).set "self" (.ref (.inst .disk fD))
 let lB:=(lA.set "found" (.ref (.inst .disk (b+1)))).set "places" (.ref (.list (b+5)))
 have n3:a3.next=b+6:=by show a2.next+1=_;lia
 have n4:a4.next=b+7:=by show a3.next+1=_;lia
 have n6:a6.next=b+8:=by show a4.next+1=_;lia
 have g23:Go noO noO a2 a3:=Go.newMore rfl
 have g34:Go noO noO a3 a4:=Go.newMore rfl
 have g45:Go noO noO a4 a5:=Go.newMore rfl
 have g56:Go (one (b+1)) (one (b+1)) a5 a6:=Go.set rfl
 have g67:Go noO noO a6 a7:=Go.newMore rfl
 have g78:Go (one (b+1)) (one (b+1)) a7 a8:=Go.set rfl
 have G4:Go noO noO σ a4:=(G2.trans g23).trans g34
 have G6:Go noO noO σ a6:=qq5 (G4.trans g45) g56 (Nat.le_succ _)
 have G8:Go noO noO σ a8:=qq5 (G6.trans g67) g78 (Nat.le_succ _)
 have hD4:a4.heap (.inst .disk fD)=some (qbo bl sz kd lt u dw 1):=(G4.eq (.inst .disk fD) F.lt1 id).trans hD
 have hD1:a0.heap (.inst .disk fD)=some (qbo bl sz kd lt u dw 1):=((Go.newMore (O:=noO) rfl).eq (.inst .disk fD) F.lt1 id).trans hD
 have hk4:a4.heap (.dict kd)=some (.dictI ks):=(G4.eq (.dict kd) F.lt2 id).trans hk
 have hnew4:a4.heap (.inst .disk (b+1))=some (qbo bl sz (b+2) (b+3) (b+4) 0 0):=((g23.trans g34).eq (.inst .disk (b+1)) (by show b+1<a2.next;(with_reducible exact qfk ‹_› (by decide))) id).trans c1
 have hpl6:a6.heap (.list (b+5))=some (.list []):=by
  have h3:a3.heap (.list (b+5))=some (.list []):=by
   have:=qaz a2 .list (.list [])
   rw [n2]at this;exact this
  have h4:=(g34.trans g45).eq (.list (b+5)) (by show b+5<a3.next;(with_reducible exact qfk ‹_› (by decide))) id
  have h6:=g56.eq (.list (b+5)) (by show b+5<a4.next+1;lia) (by show ¬b+5=b+1;lia)
  rw [h6,h4,h3]
 have hD6:a6.heap (.inst .disk fD)=some (qbo bl sz kd lt u dw 1):=(G6.eq (.inst .disk fD) F.lt1 id).trans hD
 have hu6:a6.heap (.list u)=some (.list []):=(G6.eq (.list u) F.lt4 id).trans hu
 have hn6:a6.heap (.inst .disk (b+1))=some (qbo bl sz (b+7) (b+3) (b+4) 0 0):=by simp [a6,qaa]
 have hk6:a6.heap (.dict (b+7))=some (.dictI ks):=by
  have:=qaz a4 .dict (.dictI ks)
  rw [n4]at this;rw [g56.eq (.dict (b+7)) (by show b+7<a4.next+1;lia) (by show ¬b+7=b+1;lia)];exact this
 have st1:evS (qag Pm (d+1)) (.asgTup ["found","places"] [.new .disk [.attr (.var "self") "blocks",.attr (.var "self") "size"],.bi .list [.var "chosen"]]) lA a0=some (.next,lB,a4):=by
  have v1:evE (qag Pm (d+1)) lA (.new .disk [.attr (.var "self") "blocks",.attr (.var "self") "size"]) a0=some (.ref (.inst .disk (b+1)),a2):=
   qm4 (vs:= [.int bl,.int sz]) (σ1:=a0) (by simp(decide:=true) [-String.reduceEq,-String.reduceNe,-BEq.rfl,lA,hD1,qbo]) r2
  have v2:evE (qag Pm (d+1)) lB (.bi .list [.var "chosen"]) a2=some (.ref (.list (b+5)),a3):=by
   simp(decide:=true) [-String.reduceEq,-String.reduceNe,-BEq.rfl,lB,lA,hch,n2,a3]
  have v2':evE (qag Pm (d+1)) lA (.bi .list [.var "chosen"]) a2=some (.ref (.list (b+5)),a3):=by
   simp(decide:=true) [-String.reduceEq,-String.reduceNe,-BEq.rfl,lA,hch,n2,a3]
  rw [qet,qai v1 (qai v2' qby)];rfl
 have st2:evS (qag Pm (d+1)) (.asgAttr (.var "found") "kept" (.bi .dict [.attr (.var "self") "kept"])) lB a4=some (.next,lB,a6):=by
  simp(decide:=true) [-String.reduceEq,-String.reduceNe,-BEq.rfl,lB,lA,hD4,qbo,hk4,hnew4,n4,a6,a5]
 have st3: ∀body,evS (qag Pm (d+1)) (.forL "place" (.var "places") body) lB a6=some (.next,lB,a6):=fun body=>by
  rw [qgr (v:= .ref (.list (b+5))) (σ₁:=a6) (vs:= []) (qa4 rfl) (by simp [hpl6])];exact qcn (by simp [hpl6])
 have st4:evS (qag Pm (d+1)) (.forEnum0 (.attr (.var "self") "unflushed")) lB a6=some (.next,lB,a6):=by
  simp(decide:=true) [-String.reduceEq,-String.reduceNe,-BEq.rfl,lB,lA,hD6,qbo,hu6]
 have st5:evS (qag Pm (d+1)) (.asgAttr (.var "found") "latest" (.bi .dict [.attr (.var "found") "kept"])) lB a6=some (.next,lB,a8):=by
  simp(decide:=true) [-String.reduceEq,-String.reduceNe,-BEq.rfl,lB,lA,hn6,qbo,hk6,n6,a8,a7]
 refine kk a8 ks ?_ (by simp [a8,qaa,b]) ?_ hkT hkg ?_ ?_ G8
 ·have hafter:qag Pm (d+2) (.m .disk "after") [.ref (.inst .disk fD),.ref (.list b)] a0=some (.ref (.inst .disk (b+1)),a8):=by
   rw [qki];show qez (qbk (qag Pm (d+1)) (_::_:: .forL "place" (.var "places") _::_::_:: [.ret (.var "found")]) lA a0)=_
   rw [qap st1,qap st2,qap (st3 _),qap st4,qap st5,qbv,ql6,qa4 (v:= .ref (.inst .disk (b+1))) rfl];rfl
  rw [qlx];have ev:evE (qag Pm (d+2)) (l0.set "self" (.ref (.inst .disk fD))) (.bi .listRange [.bi .len [.attr (.var "self") "unflushed"]]) σ=some (.ref (.list b),a0):=by
   simp(decide:=true) [-String.reduceEq,-String.reduceNe,-BEq.rfl,l0,hD,qbo,hu,qbm,a0,b]
  show qez (qbk (qag Pm (d+2)) [.ret (.meth (.var "self") "after" [.bi .listRange [.bi .len [.attr (.var "self") "unflushed"]]])] (l0.set "self" (.ref (.inst .disk fD))) σ)=_
  have hro:qc8 (.ref (.inst .disk fD)) σ=true:=by simp [hD,qbo]
  rw [qbv,ql6,qs7,qa4 (v:= .ref (.inst .disk fD)) rfl];simp only [bind];rw [hro];simp only;rw [qai ev qby];simp only [hafter];rfl
 ·have:=qaz a6 .dict (.dictI ks)
  rw [n6]at this;rw [show σ.next=b from rfl,g78.eq (.dict (b+8)) (by show b+8<a6.next+1;lia) (by show ¬b+8=b+1;lia)];exact this
 ·rw [show σ.next=b from rfl];have h8:=((qh7 g67).trans g78).eq (.list (b+4)) (by show b+4<a6.next;(with_reducible exact qfk ‹_› (by decide))) (by show ¬b+4=b+1;lia)
  have h6:=(((qh7 g23).trans (qh7 g34)).trans (qh7 g45)).trans g56
  have h6:=h6.eq (.list (b+4)) (by show b+4<a2.next;(with_reducible exact qfk ‹_› (by decide))) (by show ¬b+4=b+1;lia)
  rw [h8,h6];exact c4
 ·show a6.next+1=_
  rw [n6]
end
end Mine.B
end
noncomputable section
namespace Mine.B
theorem qc4 {C:Calls} {l:Locs} {e:ME} {x:String} {es:List ME} {σ σ1 σ2:St} {c:Cls} {i:Nat} {fs:List (String×V)} {vs:List V} {v:V} (h1:evE C l e σ=some (.ref (.inst c i),σ)) (hf:σ.heap (.inst c i)=some (.inst fs)) (h2:qdc C l es σ=some (vs,σ1))
  (h3:C (.m c x) (.ref (.inst c i)::vs) σ1=some (v,σ2)):evE C l (.meth e x es) σ=some (v,σ2):=by
 have hr:qc8 (.ref (.inst c i)) σ=true:=by rw [qqu,hf];rfl
 rw [qs7,h1];show(match qc8 (.ref (.inst c i)) σ with|false=>none|true=>bind (qdc C l es σ) fun vs σ=>C (.m c x) (.ref (.inst c i)::vs) σ)=_
 rw [hr];show bind (qdc C l es σ) _=_
 rw [h2];exact h3
noncomputable def qo1 (B:Nat→List UInt8):G:= {kn:= [],ids:=fun _=>0,bds:=fun _=>0,hold:=fun _=>0,dat:=fun _=> [],lat:=B,hits:=0,rd:=0,wr:=0}
noncomputable def oIni (b:Nat):Nat→Prop:=fun k=>b≤k∧k<b+12
section
variable {d:Nat} {σ:St}
theorem qs2 {fD kd lt u bl sz T most:Nat} {B:Nat→List UInt8} (F:FD σ fD kd lt u bl sz T B) (hb:1≤bl) (hb2:bl≤1000) (hs:1≤sz) (hs2:sz≤64) (hm:1≤most) (hm2:most≤60):
  ∃σ',qag Pm (d+4) (.f "_law_side") [.ref (.inst .disk fD),.int most] σ=some (sd σ.next,σ')∧SI σ' (oIni σ.next) σ.next most bl sz T [] [] (qo1 B) (fun _=>none)∧σ'.next=σ.next+18∧Go noO noO σ σ':=by
 refine qaj F.disk fun dw hD=>?_
 let b:=σ.next
 refine qs1 (d:=d) F hb hs fun s1 ks r1 c1 c2 hkT hkg c3 n1 G1=>?_
 have n1:s1.next=b+9:=n1
 let s1':=s1.new (.inst .cache) (.inst [])
 have g11:Go noO noO s1 s1':=Go.newMore rfl
 have n1':s1'.next=b+10:=by show s1.next+1=_;lia
 have hnew:s1'.heap (.inst .cache (b+9))=some (.inst []):=by
  have:=qaz s1 (.inst .cache) (.inst [])
  rw [n1]at this;exact this
 have hd1':s1'.heap (.inst .disk (b+1))=some (qbo bl sz (b+7) (b+8) (b+4) 0 0):=(g11.eq (.inst .disk (b+1)) (by show b+1<s1.next;(with_reducible exact qfk ‹_› (by decide))) id).trans c1
 refine qq6 (d:=d+2) (σ:=s1') (i:=b+9) (most:=most) hnew hd1' hm (by(with_reducible exact qfk ‹_› (by decide))) fun s2 r2 e1 e2 e3 n2 k2=>?_
 rw [n1']at e1 e2 e3 n2 k2;have G2:Go noO noO σ s2:=⟨by have:=G1.le;lia,fun l h1 h2=>by
  have:l≠ .inst .cache (b+9):=by rintro rfl;have:b+9<b:=h1;lia
  rw [k2 l this (by have:σ.next=b:=rfl;(with_reducible exact oq7s ‹_›)),(G1.trans g11).eq l h1 h2],fun k h=> .inl h⟩
 have F2:FD s2 fD kd lt u bl sz T B:=F.go (fun l hl=>G2.eq l (or4 hl F.lt1 F.lt2 F.lt3 F.lt4) id) G2.le
 refine qaj F2.disk fun dw2 hD2=>?_
 refine qao F2.lat fun lsx hl2 _ hlg2=>?_
 let s3:=s2.new .list (qm1 bl B)
 let s4:=s3.new .tup (.tup [.ref (.inst .cache (b+9)),.ref (.list (b+12))])
 let s5:=s4.new .dict (.dictI [])
 let s6:=s5.new .dict (.dictI [])
 let s7:=s6.new .list (.list [.int 0,.int 0,.int 0])
 let s8:=s7.new .dict (.dictS [("cache",.ref (.inst .cache (b+9))),("most",.int most),("hands",.ref (.dict (b+14))),("shown",.ref (.dict (b+15))),("kept",.ref (.list (b+12))),("counts",.ref (.list (b+16)))])
 have n2:s2.next=b+12:=n2
 have n3:s3.next=b+13:=by show s2.next+1=_;lia
 have n4:s4.next=b+14:=by show s3.next+1=_;lia
 have n5:s5.next=b+15:=by show s4.next+1=_;lia
 have n6:s6.next=b+16:=by show s5.next+1=_;lia
 have n7:s7.next=b+17:=by show s6.next+1=_;lia
 have n8:s8.next=b+18:=by show s7.next+1=_;lia
 let lA:=(l0.set "most" (.int most)).set "first" (.ref (.inst .disk fD))
 let lB:=(lA.set "cache" (.ref (.inst .cache (b+9)))).set "kept" (.ref (.list (b+12)))
 have vcopy:evE (qag Pm (d+3)) lA (.meth (.var "first") "copy" []) σ=some (.ref (.inst .disk (b+1)),s1):=
  qc4 (qa4 rfl) hD (by rw [qby]) r1
 have vcache:evE (qag Pm (d+3)) lA (.new .cache [.meth (.var "first") "copy" [],.var "most"]) σ=some (.ref (.inst .cache (b+9)),s2):=by
  have:=qm4 (C:=qag Pm (d+3)) (l:=lA) (c:= .cache) (qai vcopy (qai (qa4 (x:="most") (v:= .int most) rfl) (by rw [qby]))) (by rw [n1];exact r2)
  rw [n1]at this;exact this
 have vcomp:evE (qag Pm (d+3)) lA (.comp (.meth (.var "first") "read" [.var "number"]) "number" 1 [.attr (.var "first") "blocks"] none) s2=some (.ref (.list (b+12)),s3):=by
  have hb1:(-100000:Int)≤bl:=by lia
  have hb3:(bl:Int)≤100000:=by lia
  have:=qf4 (C:=qag Pm (d+3)) (l:=lA) (elt:= .meth (.var "first") "read" [.var "number"]) (x:="number") (k:=1) (its:= [.attr (.var "first") "blocks"]) (σ:=s2) (σ₁:=s2) (ws:= [.int bl]) (src:=qbm 0 bl) (f:=fun v=>match v with| .int i=> .bytes (B i.toNat)|_=> .none) rfl
   (by simp(decide:=true) [-String.reduceEq,-String.reduceNe,-BEq.rfl,lA,hD2,qbo]) (by simp [hb1,hb3]) rfl (by
    intro v hv;rw [qcz]at hv;refine qac (List.mem_map.mp hv) fun i hi e5_2=>?_;subst e5_2
    have hi:=List.mem_range.mp hi
    have hr:=qh2 (d:=d+1) hD2 hl2 hi hs2
    rw [hlg2 i hi]at hr;refine qc4 (vs:= [.int i]) (qa4 rfl) hD2 (qai (qa4 rfl) (by rw [qby])) ?_
    rw [hr];simp)
  rw [this,n2];have e:(qbm 0 bl).map (fun v=>match v with| .int i=>V.bytes (B i.toNat)|_=>V.none)=(List.range bl).map fun n=>V.bytes (B n):=by
   rw [qcz,List.map_map];exact List.map_congr_left fun i _=>by simp [Function.comp]
  rw [e];rfl
 have st1:evS (qag Pm (d+3)) (.asgTup ["cache","kept"] [.new .cache [.meth (.var "first") "copy" [],.var "most"],.comp (.meth (.var "first") "read" [.var "number"]) "number" 1 [.attr (.var "first") "blocks"] none]) lA σ=some (.next,lB,s4):=by
  rw [qet,qai vcache (qai vcomp qby)];rfl
 have st2:evE (qag Pm (d+3)) lB (.dct ["cache","most","hands","shown","kept","counts"] [.var "cache",.var "most",.dct [] [],.dct [] [],.var "kept",.lst [.int 0,.int 0,.int 0]]) s4=some (sd b,s8):=by
  simp(decide:=true) [-String.reduceEq,-String.reduceNe,-BEq.rfl,lB,lA,n4,n5,n6,n7,sd,s8,s7,s6,s5]
 have gA:Go noO noO s2 s3:=Go.newMore rfl
 have gB:Go noO noO s3 s4:=Go.newMore rfl
 have gC:Go noO noO s4 s5:=Go.newMore rfl
 have gD:Go noO noO s5 s6:=Go.newMore rfl
 have gE:Go noO noO s6 s7:=Go.newMore rfl
 have gF:Go noO noO s7 s8:=Go.newMore rfl
 have g28:Go noO noO s2 s8:=((((gA.trans gB).trans gC).trans gD).trans gE).trans gF
 have at2: ∀x:Loc,x.n<b+12→s8.heap x=s2.heap x:=fun x hx=>g28.eq x (by lia) id
 have at1: ∀x:Loc,x≠ .inst .cache (b+9)→x.n<b+9→s8.heap x=s1.heap x:=fun x hx hlt=>by
  rw [at2 x (by lia),k2 x hx (by lia),g11.eq x (by lia) id]
 refine⟨s8,?_,?_,n8,G2.trans g28⟩
 ·rw [qlt];show qez (qbk (qag Pm (d+3)) [_,.ret _] lA σ)=_
  rw [qap st1,qbv,ql6,st2];rfl
 ·have hcr:CR s8 (oIni b) b most bl sz T (qo1 B):= {
   cache:=(at2 _ (by simp [Loc.n])).trans e1
   disk:=⟨0,(at1 _ (by intro q;cases q) (by simp [Loc.n])).trans c1⟩
   row:=(at2 _ (by simp [Loc.n])).trans e2
   by_:=⟨[],(at2 _ (by simp [Loc.n])).trans e3,by simp,fun n=>by simp [qo1,qa8]⟩
   lats:=⟨ks,(at1 _ (by intro q;cases q) (by simp [Loc.n])).trans c2,hkT,hkg⟩
   unf:=⟨[],(at1 _ (by intro q;cases q) (by simp [Loc.n])).trans c3,by simp⟩
   buf:=fun n hn=>by simp [qo1]at hn
   bufo:=fun n hn=>by simp [qo1]at hn
   inji:=fun n hn=>by simp [qo1]at hn
   injb:=fun n hn=>by simp [qo1]at hn
   nd:=by simp [qo1]
   latl:=F.len
   own:=fun k h1 h2=>⟨h1,h2⟩
   lt:=fun k hk=>by have:=hk.2;lia
   szl:=hs2
   knm:=by simp [qo1]
   mostl:=by(with_reducible exact Nat.le_trans ‹_› (by decide))}
  have k12:s8.heap (.list (b+12))=some (qm1 bl B):=by
   have:=qaz s2 .list (qm1 bl B)
   rw [n2]at this;rw [((((gB.trans gC).trans gD).trans gE).trans gF).eq (.list (b+12)) (by show b+12<s3.next;(with_reducible exact qfk ‹_› (by decide))) id];exact this
  have k14:s8.heap (.dict (b+14))=some (.dictI []):=by
   have:=qaz s4 .dict (.dictI [])
   rw [n4]at this;rw [((gD.trans gE).trans gF).eq (.dict (b+14)) (by show b+14<s5.next;(with_reducible exact qfk ‹_› (by decide))) id];exact this
  have k15:s8.heap (.dict (b+15))=some (.dictI []):=by
   have:=qaz s5 .dict (.dictI [])
   rw [n5]at this;rw [(gE.trans gF).eq (.dict (b+15)) (by show b+15<s6.next;(with_reducible exact qfk ‹_› (by decide))) id];exact this
  have k16:s8.heap (.list (b+16))=some (.list [.int 0,.int 0,.int 0]):=by
   have:=qaz s6 .list (.list [.int 0,.int 0,.int 0])
   rw [n6]at this;rw [gF.eq (.list (b+16)) (by show b+16<s7.next;(with_reducible exact qfk ‹_› (by decide))) id];exact this
  have k17:=qaz s7 .dict (.dictS [("cache",.ref (.inst .cache (b+9))),("most",.int most),("hands",.ref (.dict (b+14))),("shown",.ref (.dict (b+15))),("kept",.ref (.list (b+12))),("counts",.ref (.list (b+16)))])
  rw [n7]at k17;have hbr:BR s8 b most bl T [] (qo1 B).ids (fun _=>none) B 0 0 0:= {
   side:=k17
   hands:=⟨[],k14,by simp,fun n=>by simp [qa8]⟩
   shown:=⟨[],k15,by simp,fun n=>by simp [qa8]⟩
   kept:=k12
   counts:=k16}
  exact⟨hcr,hbr,fun k hk q=>by have:=hk.1;have:=q.2;(with_reducible exact oq38 ‹_› ‹_›),by show b+18≤_;(with_reducible exact oq1e ‹_› (by decide)),fun n hn=>by simp [qo1]at hn,fun n hn=>by simp at hn,.nil,by simp,fun n hn=>by simp [qo1]at hn,by simp [qo1,Lr]⟩
end
end Mine.B
end
noncomputable section
namespace Mine.B
noncomputable def qee:List MS:=match D__law_well.body with
 | [_,.forL _ _ b,_]=>b
 |_=> []
section
variable {d:Nat} {σ:St}
theorem qh8 {k:Nat} {full:List V} (hf:σ.heap (.list k)=some (.list full)): ∀(cells:List Int) (l:Locs) (a b:Int),l "whole" =some (.int a)→l "stirred" =some (.int b)→0≤a→0≤b→b<2147483399→
  ∃l' a' b',qch (fun s=>decide (qav (.ref (.list k)) s=some full)) (fun u l s=>qbk (qag Pm d) qee (l.set "cell" u) s) (cells.map V.int) l σ=some (.next,l',σ)∧l' "whole" =some (.int a')∧l' "stirred" =some (.int b')∧0≤a'∧0≤b'∧b'<2147483399
 | [],l,a,b,h1,h2,ha,hb,hb2=>⟨l,a,b,qcn (by simp [hf]),h1,h2,ha,hb,hb2⟩
 |c::r,l,a,b,h1,h2,ha,hb,hb2=>by
  rw [List.map_cons,qbn (by simp [hf])];by_cases hc:(1000000000000000000:Int)≤c
  ·have hN:(0:Int)<10^140:=by decide
   have e:qbk (qag Pm d) qee (l.set "cell" (.int c)) σ=some (.next,(l.set "cell" (.int c)).set "whole" (.int ((a*1021+c- 10^18).fmod (10^140))),σ):=by
    simp(decide:=true) [-String.reduceEq,-String.reduceNe,-BEq.rfl,qee,D__law_well,h1,hc]
   rw [e];refine qga (qh8 hf r ((l.set "cell" (.int c)).set "whole" (.int ((a*1021+c- 10^18).fmod (10^140)))) ((a*1021+c- 10^18).fmod (10^140)) b (by simp [Locs.set]) (by simp [Locs.set,h2]) (Int.fmod_nonneg_of_pos _ hN) hb hb2) fun l' a' b' r1 r2=>?_
   exact⟨l',a',b',r1,r2⟩
  ·have e:qbk (qag Pm d) qee (l.set "cell" (.int c)) σ=some (.next,(l.set "cell" (.int c)).set "stirred" (.int ((b*16807+c).fmod 2147483399)),σ):=by
    simp(decide:=true) [-String.reduceEq,-String.reduceNe,-BEq.rfl,qee,D__law_well,h2,hc]
   rw [e];refine qga (qh8 hf r ((l.set "cell" (.int c)).set "stirred" (.int ((b*16807+c).fmod 2147483399))) a ((b*16807+c).fmod 2147483399) (by simp [Locs.set,h1]) (by simp [Locs.set]) ha (Int.fmod_nonneg_of_pos _ (by decide)) (Int.fmod_lt_of_pos _ (by decide))) fun l' a' b' r1 r2=>?_
   exact⟨l',a',b',r1,r2⟩
theorem qs3 {sL:Nat} {ns:List Int} (h:σ.heap (.list sL)=some (.list (ns.map V.int))) (hs:sL<σ.next) {GG:Prop} (kk: ∀σ' w,qag Pm (d+1) (.f "_law_well") [.ref (.list sL)] σ=some (.ref (.list w),σ')→Well σ' w 0→σ.next≤w→w<σ'.next→Go noO noO σ σ'→GG):GG:=by
 let s1:=σ.new .tup (.tup [.int 0,.int 83])
 let s2:=s1.new .list (.list ((ns.take 28).map V.int))
 let lA:=l0.set "script" (.ref (.list sL))
 let lB:=(lA.set "whole" (.int 0)).set "stirred" (.int 83)
 have n1:s1.next=σ.next+1:=rfl
 have h1:s1.heap (.list sL)=some (.list (ns.map V.int)):=((Go.newMore (O:=noO) rfl).eq (.list sL) hs id).trans h
 have h2:s2.heap (.list (σ.next+1))=some (.list ((ns.take 28).map V.int)):=qaz s1 .list _
 have st1:evS (qag Pm d) (.asgTup ["whole","stirred"] [.int 0,.int 83]) lA σ=some (.next,lB,s1):=by
  simp(decide:=true) [-String.reduceEq,-String.reduceNe,-BEq.rfl,lB,s1]
 refine qt4 (qh8 (d:=d) h2 (ns.take 28) lB 0 83 rfl rfl (by decide) (by decide) (by decide)) fun l' a b r1 e1 e2 ha hb hb2=>?_
 have st2:evS (qag Pm d) (.forL "cell" (.sliceTo (.var "script") (.int 28)) qee) lB s1=some (.next,l',s2):=by
  rw [qgr (v:= .ref (.list (σ.next+1))) (σ₁:=s2) (vs:=(ns.take 28).map V.int) (by simp(decide:=true) [-String.reduceEq,-String.reduceNe,-BEq.rfl,lB,lA,h1,n1,s2]) (by simp [h2])];exact r1
 refine kk (s2.new .list (.list [.int a,.int b,.int 0])) (σ.next+2) ?_ ⟨a,b,0,qaz s2 .list _,ha,hb,hb2,by decide,by simp⟩ (by(with_reducible exact Nat.le_add_right _ _)) (by show σ.next+2<σ.next+3;(with_reducible exact qrj (by decide))) (((Go.newMore rfl).trans (Go.newMore rfl)).trans (Go.newMore rfl))
 rw [qls];show qez (qbk (qag Pm d) [_,.forL "cell" (.sliceTo (.var "script") (.int 28)) qee,.ret _] lA σ)=_
 rw [qap st1,qap st2];have n2:s2.next=σ.next+2:=rfl
 simp(decide:=true) [-String.reduceEq,-String.reduceNe,-BEq.rfl,e1,e2,n2]
end
end Mine.B
end
noncomputable section
namespace Mine.B
noncomputable def fs (fD kd lt u:Nat):Nat→Prop:=fun k=>k=fD∨k=kd∨k=lt∨k=u
theorem qh9 {C:Calls} {x:String} {hi:ME} {body:List MS} {l:Locs} {σ σ₁:St} {b:Nat} (h1:evE C l hi σ=some (.int b,σ₁)) (hb:b≤1000):
  evS C (.forRange x hi body) l σ=qch (fun _=>true) (fun u l σ=>qbk C body (l.set x u) σ) ((List.range b).map fun i:Nat=>V.int i) l σ₁:=by
 rw [qnt,h1];show(if _ then _ else _)=_
 rw [if_pos (by lia),qcz]
theorem qq7 {C:Calls} {xs:List String} {it:ME} {body:List MS} {l:Locs} {σ σ₁:St} {v:V} {vs:List V} (h1:evE C l it σ=some (v,σ₁)) (h2:qav v σ₁=some vs):
  evS C (.forUnp xs it body) l σ=qch (fun σ=>decide (qav v σ=some vs)) (fun u l σ=>match u with
     | .ref (.tup n)=>match σ.heap (.tup n)with
      |some (.tup us)=>qdt (qcr xs us l) fun l'=>qbk C body l' σ
      |_=>none
     |_=>none) vs l σ₁:=by
 rw [qrm,h1];show qdt (qav v σ₁) _=_
 rw [h2];rfl
structure FW (σ:St) (fD kd lt u bl sz k:Nat) (B:Nat→List UInt8):Prop where
 disk: ∃dw,σ.heap (.inst .disk fD)=some (qbo bl sz kd lt u dw 0)
 kept:σ.heap (.dict kd)=some (.dictI [])
 lat: ∃ks,σ.heap (.dict lt)=some (.dictI ks)∧ks.length≤k∧ ∀n:Nat,n<k→qa8 n ks=some (.bytes (B n))
 unf: ∃ts:List Nat,σ.heap (.list u)=some (.list (ts.map fun t=>V.ref (.tup t)))∧ts.length=k∧ ∀(i t:Nat),ts[i]? =some t→t<σ.next∧σ.heap (.tup t)=some (.tup [.int i,.bytes (B i)])
 len: ∀n,n<k→(B n).length=sz
 lt1:fD<σ.next
 lt2:kd<σ.next
 lt3:lt<σ.next
 lt4:u<σ.next
 ne:kd≠lt
 u0:u≠0
section
variable {d:Nat} {σ:St}
theorem qo2 {fD kd lt u bl sz k:Nat} {B:Nat→List UInt8} {l:Locs} (F:FW σ fD kd lt u bl sz k B) (hk:k<bl) (hbl:bl≤8) (hs:sz≤8) (hl:l "first" =some (.ref (.inst .disk fD))) (h0:l ".0" =none):
  ∃σ' B',qbk (qag Pm (d+2)) [.expr (.meth (.var "first") "write" [.var "number",.bi .bytes [.comp (.bin .add (.bin .mul (.int 16) (.var "number")) (.var "at")) "at" 1 [.attr (.var "first") "size"] none]])] (l.set "number" (.int k)) σ=some (.next,l.set "number" (.int k),σ')∧
   FW σ' fD kd lt u bl sz (k+1) B'∧Go (fs fD kd lt u) (fs fD kd lt u) σ σ':=by
 refine qaj F.disk fun dw hD=>?_
 refine qao F.lat fun ks hks hkl hkg=>?_
 refine qao F.unf fun ts hts htl htg=>?_
 have hk2:(k:Int).natAbs<18446744073709551616:=Nat.lt_of_lt_of_le hk (Nat.le_trans hbl (by decide))
 refine qjj (C:=qag Pm (d+2)) (l:=l.set "number" (.int k)) (sze:= .attr (.var "first") "size") (elt:= .bin .add (.bin .mul (.int 16) (.var "number")) (.var "at")) (sz:=sz) (f:=fun i=>16*k+i) (σ:=σ) (by simp [Locs.set,h0]) (by simp(decide:=true) [-String.reduceEq,-String.reduceNe,-BEq.rfl,hl,hD,qbo]) (by(with_reducible exact Nat.le_trans ‹_› (by decide)))
  (fun i hi=>by lia) (fun i hi=>by
   have hk3:k<18446744073709551616:=by(with_reducible exact oq30 ‹_› ‹_› (by decide))
   simp(decide:=true) [-String.reduceEq,-String.reduceNe,-BEq.rfl,hk2,hk3]) fun bs hb he=>?_
 let s1:=σ.new .list (.list ((List.range sz).map fun i:Nat=>V.int ((16*k+i:Nat):Int)))
 have g1:Go noO noO σ s1:=Go.newMore rfl
 have hD1:s1.heap (.inst .disk fD)=some (qbo bl sz kd lt u dw 0):=(g1.eq (.inst .disk fD) F.lt1 id).trans hD
 have hl1:s1.heap (.dict lt)=some (.dictI ks):=(g1.eq (.dict lt) F.lt3 id).trans hks
 have hu1:s1.heap (.list u)=some (.list (ts.map fun t=>V.ref (.tup t))):=(g1.eq (.list u) F.lt4 id).trans hts
 have hw:=qgq (d:=d) (bs:=bs) hD1 hl1 hu1 hk (by(with_reducible exact Nat.le_trans ‹_› (by decide))) hb (by lia) (by rw [List.length_map];lia) F.u0
 let s2:=s1.set (.inst .disk fD) (qbo bl sz kd lt u (dw+1) 0)
 let s3:=s2.set (.dict lt) (.dictI (qbd k (.bytes bs) ks))
 let s4:=s3.new .tup (.tup [.int k,.bytes bs])
 let s5:=s4.set (.list u) (.list ((ts.map fun t=>V.ref (.tup t))++ [.ref (.tup s1.next)]))
 have hw:qag Pm (d+2) (.m .disk "write") [.ref (.inst .disk fD),.int k,.bytes bs] s1=some (.none,s5):=hw
 have n5:s5.next=σ.next+2:=rfl
 have gF:Go (fs fD kd lt u) (fs fD kd lt u) s1 s5:=(((Go.set (.inl rfl)).trans (Go.set (.inr (.inr (.inl rfl))))).trans (Go.newMore rfl)).trans (Go.set (.inr (.inr (.inr rfl))))
 have gT:Go (fs fD kd lt u) (fs fD kd lt u) σ s5:=(qh7 g1).trans gF
 have hm:evE (qag Pm (d+2)) (l.set "number" (.int k)) (.meth (.var "first") "write" [.var "number",.bi .bytes [.comp (.bin .add (.bin .mul (.int 16) (.var "number")) (.var "at")) "at" 1 [.attr (.var "first") "size"] none]]) σ=some (.none,s5):=
  qc4 (vs:= [.int k,.bytes bs]) (qa4 (by simp [Locs.set,hl])) hD (qai (qa4 (by simp [Locs.set])) (qai he (by rw [qby]))) hw
 have htup: ∀t o,t<σ.next→σ.heap (.tup t)=some o→s5.heap (.tup t)=some o:=fun t o ht ho=>by
  have e1: ¬(t=σ.next+1):=by lia
  have n3:s3.next=σ.next+1:=rfl
  simp [s5,s4,s3,s2,s1,qaa,qam,qae,qaf,e1]
  exact ho
 have hnt:s5.heap (.tup (σ.next+1))=some (.tup [.int k,.bytes bs]):=by
  have:=qaz s3 .tup (.tup [.int k,.bytes bs])
  simp only [s5,qaa];rw [if_neg (by intro q;cases q)];exact this
 refine⟨s5,fup B k bs,?_,?_,gT⟩
 ·rw [qbv,qo9,hm];rfl
 ·refine⟨⟨dw+1,by simp [s5,s4,s3,s2,qaa,qam]⟩,?_,⟨qbd k (.bytes bs) ks,by simp [s5,s4,s3,qaa,qam],Nat.le_trans (qa0 ..) (by(with_reducible exact oq6 ‹_› (by decide))),fun n hn=>?_⟩,⟨ts++ [σ.next+1],?_,by simp [htl],fun i t hi=>?_⟩,fun n hn=>?_,by have:=F.lt1;(with_reducible exact qrd ‹_› ‹_›),by have:=F.lt2;(with_reducible exact qrd ‹_› ‹_›),by have:=F.lt3;(with_reducible exact qrd ‹_› ‹_›),by have:=F.lt4;(with_reducible exact qrd ‹_› ‹_›),F.ne,F.u0⟩
  ·have e1: ¬kd=lt:=F.ne
   simp [s5,s4,s3,s2,s1,qaa,qam,e1]
   exact F.kept
  ·rw [qa5];by_cases e:n=k
   ·subst e;simp [qat]
   ·have: ¬(n:Int)=k:=by(with_reducible exact qo7 ‹_›)
    rw [if_neg this,hkg n (by lia),qak _ _ e]
  ·simp [s5,qaa]
   rfl
  ·by_cases hi2:i<ts.length
   ·rw [List.getElem?_append_left hi2]at hi;obtain⟨q1,q2⟩:=htg i t hi
    have:i≠k:=by lia
    rw [qak _ _ this];exact⟨by(with_reducible exact qrd ‹_› ‹_›),htup t _ q1 q2⟩
   ·rw [List.getElem?_append_right (by lia)]at hi;have hik:i=k:=by
     have:=List.getElem?_eq_some_iff.mp hi
     obtain⟨h9,_⟩:=this
     simp at h9
     lia
    subst hik;rw [htl,Nat.sub_self]at hi;simp at hi
    subst hi;rw [qat];exact⟨by(with_reducible exact qfk ‹_› (by decide)),hnt⟩
  ·by_cases e:n=k
   ·subst e;rw [qat];exact hb
   ·rw [qak _ _ e];exact F.len n (by lia)
theorem qjk {fD kd lt u bl sz:Nat} (hbl:bl≤8) (hs:sz≤8): ∀(m k:Nat) (l:Locs) (σ:St) (B:Nat→List UInt8),k+m=bl→FW σ fD kd lt u bl sz k B→l "first" =some (.ref (.inst .disk fD))→l ".0" =none→
  ∃l' σ' B',qch (fun _=>true) (fun u l σ=>qbk (qag Pm (d+2)) [.expr (.meth (.var "first") "write" [.var "number",.bi .bytes [.comp (.bin .add (.bin .mul (.int 16) (.var "number")) (.var "at")) "at" 1 [.attr (.var "first") "size"] none]])] (l.set "number" u) σ) ((List.range' k m).map fun i:Nat=>V.int i) l σ=some (.next,l',σ')∧
   (∀x,x≠ "number" →l' x=l x)∧FW σ' fD kd lt u bl sz bl B'∧Go (fs fD kd lt u) (fs fD kd lt u) σ σ'
 |0,k,l,σ,B,hk,F,hl,h0=>⟨l,σ,B,qcn rfl,fun _ _=>rfl,(show k=bl from hk) ▸ F,.refl ..⟩
 |m+1,k,l,σ,B,hk,F,hl,h0=>by
  rw [List.range'_succ,List.map_cons,qbn rfl];refine qfj (qo2 (d:=d) F (Nat.lt_of_lt_of_le (Nat.lt_add_of_pos_right (Nat.succ_pos m)) (Nat.le_of_eq hk)) hbl hs hl h0) fun σ1 B1 e1 F1 g1=>?_
  rw [e1];refine qt3 (qjk hbl hs m (k+1) (l.set "number" (.int k)) σ1 B1 (by lia) F1 (by simp [Locs.set,hl]) (by simp [Locs.set,h0])) fun l' σ' B' e2 e3 F2 g2=>?_
  exact⟨l',σ',B',e2,fun x hx=>by rw [e3 x hx];exact qe5 _ hx,F2,g1.trans g2⟩
noncomputable def qf9:List MS:=match D_Disk_flush.body with
 | [_,_,_,.forUnp _ _ b,_]=>b
 |_=> []
theorem qo3 {fD kd lt u bl sz dw:Nat} {B:Nat→List UInt8} {full:List V}: ∀(ts:List Nat) (k:Nat) (ks:List (Int×V)) (l:Locs) (σ:St),σ.heap (.dict kd)=some (.dictI ks)→ks.length≤k→(∀n:Nat,n<k→qa8 n ks=some (.bytes (B n)))→k+ts.length≤1000→
  σ.heap (.inst .disk fD)=some (qbo bl sz kd lt u dw 1)→σ.heap (.list u)=some (.list full)→(∀(i t:Nat),ts[i]? =some t→σ.heap (.tup t)=some (.tup [.int (k+i:Nat),.bytes (B (k+i))]))→l "self" =some (.ref (.inst .disk fD))→
  ∀{GG:Prop},(∀l' σ' ks',qch (fun s=>decide (qav (.ref (.list u)) s=some full)) (fun u l σ=>match u with
     | .ref (.tup n)=>match σ.heap (.tup n)with
      |some (.tup us)=>qdt (qcr ["number","octets"] us l) fun l'=>qbk (qag Pm d) qf9 l' σ
      |_=>none
     |_=>none) (ts.map fun t=>V.ref (.tup t)) l σ=some (.next,l',σ')→l' "self" =some (.ref (.inst .disk fD))→σ'.heap (.dict kd)=some (.dictI ks')→ks'.length≤k+ts.length→(∀n:Nat,n<k+ts.length→qa8 n ks'=some (.bytes (B n)))→σ'.next=σ.next→(∀x:Loc,x≠ .dict kd→σ'.heap x=σ.heap x)→GG)→GG:=by
 intro ts
 induction ts with
 |nil=>exact fun k ks l σ hk hkl hkg hb hD hu ht hl _ kk=>kk l σ ks (qcn (by simp [hu])) hl hk hkl hkg rfl fun _ _=>rfl
 |cons t ts ih=>
  intro k ks l σ hk hkl hkg hb hD hu ht hl GG kk;have h1:=ht 0 t rfl
  simp only [Nat.add_zero]at h1;have hb':k+1+ts.length≤1000:=by rw [Nat.add_assoc,Nat.add_comm 1];exact hb
  have hkl2:ks.length≤100000:=Nat.le_trans hkl (Nat.le_trans (oq2 hb) (by decide))
  have e:qbk (qag Pm d) qf9 ((l.set "number" (.int k)).set "octets" (.bytes (B k))) σ=some (.next,(l.set "number" (.int k)).set "octets" (.bytes (B k)),σ.set (.dict kd) (.dictI (qbd k (.bytes (B k)) ks))):=by
   clear ih kk ht hkg;simp(decide:=true) [-String.reduceEq,-String.reduceNe,-BEq.rfl,qf9,D_Disk_flush,hl,hD,qbo,hk,hkl2]
  refine ih (k+1) (qbd k (.bytes (B k)) ks) ((l.set "number" (.int k)).set "octets" (.bytes (B k))) (σ.set (.dict kd) (.dictI (qbd k (.bytes (B k)) ks))) (by simp [qaa]) (Nat.le_trans (qa0 ..) (by(with_reducible exact oq6 ‹_› (by decide)))) (fun n hn=>by
   rw [qa5];by_cases e:n=k
   ·subst e;simp
   ·have: ¬(n:Int)=k:=by(with_reducible exact qo7 ‹_›)
    rw [if_neg this,hkg n (Nat.lt_of_le_of_ne (Nat.le_of_lt_succ hn) e)]) hb' (by simp [qaa,hD]) (by simp [qaa,hu]) (fun i t' hi=>by
   have:=ht (i+1) t' hi
   rw [show k+(i+1)=k+1+i by rw [Nat.add_assoc,Nat.add_comm 1]]at this;simp [qaa]
   simpa using this) (by simp [Locs.set,hl]) fun l' σ' ks' r1 r2 r3 r4 r5 r6 r7=>?_
  clear ih ht hkg;have el:k+(t::ts).length=k+1+ts.length:=by rw [List.length_cons,Nat.add_assoc,Nat.add_comm 1]
  refine kk l' σ' ks' ?_ r2 r3 (el ▸ r4) (fun n hn=>r5 n (el ▸ hn)) r6 fun x hx=>(r7 x hx).trans (by rw [qaa,if_neg hx])
  rw [List.map_cons,qbn (by simp [hu])];simp only [h1,qmv,qow,qdt];rw [e];exact r1
theorem qq8 {fD kd lt u bl sz:Nat} {B:Nat→List UInt8} (F:FW σ fD kd lt u bl sz bl B) (hbl:bl≤8)
  {GG:Prop} (kk: ∀σ',qag Pm (d+2) (.m .disk "flush") [.ref (.inst .disk fD)] σ=some (.none,σ')→FD σ' fD kd lt σ.next bl sz bl B→Go (fs fD kd lt u) (fs fD kd lt u) σ σ'→σ'.next=σ.next+1→GG):GG:=by
 refine qaj F.disk fun dw hD=>?_
 refine qao F.lat fun ks hks hkl hkg=>?_
 refine qao F.unf fun ts hts htl htg=>?_
 let lA:=l0.set "self" (.ref (.inst .disk fD))
 let s1:=σ.set (.inst .disk fD) (qbo bl sz kd lt u dw 1)
 have g1:Go (fs fD kd lt u) (fs fD kd lt u) σ s1:=Go.set (.inl rfl)
 refine qo3 (d:=d+1) (fD:=fD) (kd:=kd) (lt:=lt) (u:=u) (bl:=bl) (sz:=sz) (dw:=dw) (B:=B) (full:=ts.map fun t=>V.ref (.tup t)) ts 0 [] lA s1 (by simp [s1,qaa];exact F.kept) (by simp) (fun n hn=>by lia) (by lia) (by simp [s1,qaa]) (by simp [s1,qaa];exact hts)
  (fun i t hi=>by
   simp [s1,qaa]
   have:=(htg i t hi).2
   simpa using this) rfl fun l' s2 ks' r1 r2 r3 r4 r5 r6 r7=>?_
 have hD2:s2.heap (.inst .disk fD)=some (qbo bl sz kd lt u dw 1):=by rw [r7 _ (by intro q;cases q)];simp [s1,qaa]
 let s3:=s2.new .list (.list [])
 let s4:=s3.set (.inst .disk fD) (qbo bl sz kd lt σ.next dw 1)
 have n2:s2.next=σ.next:=r6
 have g2:Go (fs fD kd lt u) (fs fD kd lt u) s1 s2:=⟨by rw [r6];exact Nat.le_refl _,fun l h1 h2=>r7 l (by rintro rfl;exact h2 (.inr (.inl rfl))),fun k h=> .inl h⟩
 have gT:Go (fs fD kd lt u) (fs fD kd lt u) σ s4:=((g1.trans g2).trans (Go.newMore rfl)).trans (Go.set (.inl rfl))
 refine kk s4 ?_ ?_ gT (by show s2.next+1=_;rw [n2])
 ·rw [qkh];show qez (qbk (qag Pm (d+1)) [_,_,_,.forUnp ["number","octets"] (.attr (.var "self") "unflushed") qf9,_] lA σ)=_
  rw [qap (l':=lA) (σ':=σ) (by simp(decide:=true) [-String.reduceEq,-String.reduceNe,-BEq.rfl,lA,hD,qbo,qcm,qbt])];rw [qap (l':=lA) (σ':=σ) (by simp(decide:=true) [-String.reduceEq,-String.reduceNe,-BEq.rfl,lA,hD,qbo])];rw [qap (l':=lA) (σ':=s1) (by simp(decide:=true) [-String.reduceEq,-String.reduceNe,-BEq.rfl,lA,hD,qbo,s1])];rw [qap (l':=l') (σ':=s2) (by
   rw [qq7 (v:= .ref (.list u)) (σ₁:=s1) (vs:=ts.map fun t=>V.ref (.tup t)) (by simp(decide:=true) [-String.reduceEq,-String.reduceNe,-BEq.rfl,lA,s1,qbo]) (by simp [s1,qaa,hts])];exact r1)]
  rw [qap (l':=l') (σ':=s4) (by simp(decide:=true) [-String.reduceEq,-String.reduceNe,-BEq.rfl,r2,hD2,qbo,s4,s3,n2])];rw [qs8];rfl
 ·have hk3:s4.heap (.dict kd)=some (.dictI ks'):=by simp [s4,s3,qaa,qam];exact r3
  have hl3:s4.heap (.dict lt)=some (.dictI ks):=by
   simp [s4,s3,qaa,qam]
   rw [r7 _ (by intro q;exact F.ne (Loc.dict.inj q).symm)];simp [s1,qaa];exact hks
  have hn:=qaz s2 .list (.list [])
  rw [n2]at hn;have l1:=F.lt1
  have l2:=F.lt2
  have l3:=F.lt3
  have n4:s4.next=σ.next+1:=by show s2.next+1=_;rw [n2]
  exact⟨⟨dw,by simp [s4,qaa]⟩,⟨ks',hk3,by lia,fun n hn=>r5 n (by lia)⟩,⟨ks,hl3,hkl,hkg⟩,by simp only [s4,qaa];rw [if_neg (by intro q;cases q)];exact hn,F.len,by(with_reducible exact qrd ‹_› ‹_›),by(with_reducible exact qrd ‹_› ‹_›),by(with_reducible exact qrd ‹_› ‹_›),by(with_reducible exact qyg ‹_› (by decide))⟩
end
end Mine.B
end
noncomputable section
namespace Mine.B
structure Sd where
 b:Nat
 most:Nat
 O:Nat→Prop
noncomputable def Sd.own (s:Sd):Nat→Prop:=side s.O s.b
noncomputable def Sd.key (s:Sd):Nat×Nat:=(s.b,s.most)
theorem SI.frame {σ σ':St} {O:Nat→Prop} {b most bl sz T:Nat} {Q:List (Option Nat)} {H:List Nat} {g:G} {sh:Nat→Option (List UInt8)} (S:SI σ O b most bl sz T Q H g sh) (h: ∀l:Loc,side O b l.n→σ'.heap l=σ.heap l) (hle:σ.next≤σ'.next):SI σ' O b most bl sz T Q H g sh:=
 {S with cr:=S.cr.frame hle fun l hl=>h l (.inl hl),br:=S.br.frame fun l h1 h2=>h l (.inr ⟨h1,h2⟩),lt:=Nat.le_trans S.lt hle}
theorem SI.low {σ:St} {O:Nat→Prop} {b most bl sz T:Nat} {Q:List (Option Nat)} {H:List Nat} {g:G} {sh:Nat→Option (List UInt8)} (S:SI σ O b most bl sz T Q H g sh) {k:Nat} (h:side O b k):k<σ.next:=
 h.elim (S.cr.lt k) fun q=>Nat.lt_of_lt_of_le q.2 S.lt
noncomputable def qjl (A:St→Sd→Prop):Prop:= ∀σ σ' s,A σ s→(∀l:Loc,s.own l.n→σ'.heap l=σ.heap l)→σ.next≤σ'.next→A σ' s
structure Pool (A:St→Sd→Prop) (prot:Nat→Prop) (P:List Sd) (σ:St):Prop where
 all: ∀s∈P,A σ s
 low: ∀s∈P,∀k,s.own k→k<σ.next∧ ¬prot k
 dis:P.Pairwise fun s s'=> ∀k,s.own k→ ¬s'.own k
theorem Pool.go {A:St→Sd→Prop} {prot X:Nat→Prop} {P:List Sd} {σ σ':St} (p:Pool A prot P σ) (f:qjl A) (g:Go X X σ σ') (h: ∀k,X k→prot k):Pool A prot P σ':=
 ⟨fun s hs=>f σ σ' s (p.all s hs) (fun l hl=>g.eq l (p.low s hs _ hl).1 fun q=>(p.low s hs _ hl).2 (h _ q)) g.le,fun s hs k hk=>⟨Nat.lt_of_lt_of_le (p.low s hs k hk).1 g.le,(p.low s hs k hk).2⟩,p.dis⟩
theorem Pool.more {A:St→Sd→Prop} {prot prot':Nat→Prop} {P:List Sd} {σ:St} (p:Pool A prot P σ) (h: ∀k,prot' k→prot k∨ ∀s∈P,¬s.own k):Pool A prot' P σ:=
 ⟨p.all,fun s hs k hk=>⟨(p.low s hs k hk).1,fun q=>(h k q).elim (p.low s hs k hk).2 fun z=>z s hs hk⟩,p.dis⟩
section
variable {A A':St→Sd→Prop} {prot:Nat→Prop} {qar:St→Bool} {turn:V→Locs→St→R} {Lk:Locs→Prop} {σ0:St}
theorem qo4 (fA:qjl A) (fA':qjl A') (hst: ∀σ:St,(∀l:Loc,prot l.n→σ.heap l=σ0.heap l)→qar σ=true)
  (step: ∀s σ l,(∀x:Loc,prot x.n→σ.heap x=σ0.heap x)→(∀k,prot k→k<σ.next∧ ¬s.own k)→Lk l→A σ s→ ∃l' σ' O',turn (sd s.b) l σ=some (.next,l',σ')∧Lk l'∧A' σ' ⟨s.b,s.most,O'⟩∧Go s.own (side O' s.b) σ σ'∧ ∀k,side O' s.b k→k<σ'.next):
  ∀(P2 P1:List Sd) (σ:St) (l:Locs),(∀s∈P1,A' σ s)→(∀s∈P2,A σ s)→(∀s∈P1++P2,∀k,s.own k→k<σ.next∧ ¬prot k)→(P1++P2).Pairwise (fun s s'=> ∀k,s.own k→ ¬s'.own k)→(∀k,prot k→k<σ.next)→(∀x:Loc,prot x.n→σ.heap x=σ0.heap x)→Lk l→
  ∀{GG:Prop},(∀l' σ' P',qch qar turn (P2.map fun s=>sd s.b) l σ=some (.next,l',σ')→Lk l'→Pool A' prot (P1++P') σ'→P'.map Sd.key=P2.map Sd.key→σ.next≤σ'.next→(∀x:Loc,prot x.n→σ'.heap x=σ0.heap x)→GG)→GG:=by
 intro P2
 induction P2 with
 |nil=>exact fun P1 σ l h1 h2 h3 h4 h5 h6 h7 _ kk=>kk l σ [] (qcn (hst σ h6)) h7 ⟨by simpa using h1,h3,h4⟩ rfl (Nat.le_refl _) h6
 |cons s P2 ih=>
  intro P1 σ l h1 h2 h3 h4 h5 h6 h7 GG kk;have hsm:s∈P1++s::P2:=by simp
  refine qyd (step s σ l h6 (fun k hk=>⟨h5 k hk,fun q=>(h3 s hsm k q).2 hk⟩) h7 (h2 s (.head _))) fun l1 σ1 O' e1 e2 e3 e4 e5=>?_
  have hdis: ∀s'∈P1++P2,∀k,s'.own k→ ¬s.own k:=fun s' hs' k hk hq=>by
   rw [List.pairwise_append]at h4;refine qeg h4 fun p1 p2 p3=>?_
   rcases List.mem_append.mp hs' with q|q
   ·exact p3 s' q s (.head _) k hk hq
   ·exact(List.pairwise_cons.mp p2).1 s' q k hq hk
  have hkeep: ∀s'∈P1++P2,∀x:Loc,s'.own x.n→σ1.heap x=σ.heap x:=fun s' hs' x hx=>e4.eq x (h3 s' (by
   rcases List.mem_append.mp hs' with q|q
   ·exact List.mem_append_left _ q
   ·exact List.mem_append_right _ (.tail _ q)) _ hx).1 (hdis s' hs' _ hx)
  have hnew: ∀k,side O' s.b k→s.own k∨σ.next≤k:=e4.own
  refine ih (P1++ [⟨s.b,s.most,O'⟩]) σ1 l1
   (fun s' hs'=>by
    rcases List.mem_append.mp hs' with q|q
    ·exact fA' σ σ1 s' (h1 s' q) (hkeep s' (List.mem_append_left _ q)) e4.le
    ·rw [List.mem_singleton.mp q];exact e3)
   (fun s' hs'=>fA σ σ1 s' (h2 s' (.tail _ hs')) (hkeep s' (List.mem_append_right _ hs')) e4.le)
   (fun s' hs' k hk=>by
    rw [List.append_assoc]at hs';rcases List.mem_append.mp hs' with q|q
    ·have:=h3 s' (List.mem_append_left _ q) k hk
     exact⟨Nat.lt_of_lt_of_le this.1 e4.le,this.2⟩
    ·rcases List.mem_append.mp q with q|q
     ·rw [List.mem_singleton.mp q]at hk;refine⟨e5 k hk,fun hp=>?_⟩
      rcases hnew k hk with z|z
      ·exact(h3 s hsm k z).2 hp
      ·exact absurd (h5 k hp) (Nat.not_lt.mpr z)
     ·have:=h3 s' (List.mem_append_right _ (.tail _ q)) k hk
      exact⟨Nat.lt_of_lt_of_le this.1 e4.le,this.2⟩)
   (by
    rw [List.append_assoc,List.pairwise_append];rw [List.pairwise_append]at h4;obtain⟨p1,p2,p3⟩:=h4
    obtain⟨p4,p5⟩:=List.pairwise_cons.mp p2
    have old: ∀s'∈P1++P2,∀k,s'.own k→ ¬side O' s.b k:=fun s' hs' k hk hq=>by
     rcases hnew k hq with z|z
     ·exact hdis s' hs' k hk z
     ·have:=(h3 s' (by
       rcases List.mem_append.mp hs' with q|q
       ·exact List.mem_append_left _ q
       ·exact List.mem_append_right _ (.tail _ q)) k hk).1
      (with_reducible exact oq38 ‹_› ‹_›)
    refine⟨p1,List.pairwise_cons.mpr ⟨fun s' hs' k hk hq=>old s' (List.mem_append_right _ hs') k hq hk,p5⟩,fun s' hs' s'' hs'' k hk hq=>?_⟩
    rcases List.mem_append.mp hs'' with q|q
    ·rw [List.mem_singleton.mp q]at hq;exact old s' (List.mem_append_left _ hs') k hk hq
    ·exact p3 s' hs' s'' (.tail _ q) k hk hq)
   (fun k hk=>Nat.lt_of_lt_of_le (h5 k hk) e4.le)
   (fun x hx=>(e4.eq x (h5 _ hx) fun q=>(h3 s hsm _ q).2 hx).trans (h6 x hx)) e2 fun l' σ' P' r1 r2 r3 r4 r5 r6=>?_
  exact kk l' σ' (⟨s.b,s.most,O'⟩::P') (by rw [List.map_cons,qbn (hst σ h6),e1];exact r1) r2 (by simpa using r3) (by simp [r4,Sd.key]) (Nat.le_trans e4.le r5) r6
theorem Pool.loop {P:List Sd} {σ:St} {l:Locs} (p:Pool A prot P σ) (fA:qjl A) (fA':qjl A') (pl: ∀k,prot k→k<σ.next) (hst: ∀s:St,(∀l:Loc,prot l.n→s.heap l=σ.heap l)→qar s=true)
  (step: ∀s σ1 l,(∀x:Loc,prot x.n→σ1.heap x=σ.heap x)→(∀k,prot k→k<σ1.next∧ ¬s.own k)→Lk l→A σ1 s→ ∃l' σ' O',turn (sd s.b) l σ1=some (.next,l',σ')∧Lk l'∧A' σ' ⟨s.b,s.most,O'⟩∧Go s.own (side O' s.b) σ1 σ'∧ ∀k,side O' s.b k→k<σ'.next) (hl:Lk l)
  {GG:Prop} (kk: ∀l' σ' P',qch qar turn (P.map fun s=>sd s.b) l σ=some (.next,l',σ')→Lk l'→Pool A' prot P' σ'→P'.map Sd.key=P.map Sd.key→σ.next≤σ'.next→(∀x:Loc,prot x.n→σ'.heap x=σ.heap x)→GG):GG:=
 qo4 (σ0:=σ) fA fA' hst step P [] σ l (fun s h=>by cases h) p.all p.low p.dis pl (fun _ _=>rfl) hl kk
end
noncomputable def Sat (least bl sz T:Nat) (Q:List (Option Nat)) (H:List Nat) (σ:St) (s:Sd):Prop:=least≤s.most∧s.most≤60∧ ∃g sh,SI σ s.O s.b s.most bl sz T Q H g sh
theorem Sat.framed (least bl sz T:Nat) (Q:List (Option Nat)) (H:List Nat):qjl (Sat least bl sz T Q H):=fun σ σ' s ⟨h1,h2,g,sh,S⟩ hk hle=>⟨h1,h2,g,sh,S.frame hk hle⟩
end Mine.B
end
noncomputable section
namespace Mine.B
structure Lw where
 w:Nat
 rL:Nat
 hL:Nat
 fD:Nat
 sL:Nat
 least:Nat
 bl:Nat
 sz:Nat
noncomputable def Lw.prot (a:Lw):Nat→Prop:=fun k=>k=a.w∨k=a.rL∨k=a.hL∨k=a.fD∨k=a.sL
structure Lw.Ok (a:Lw):Prop where
 nd: [a.w,a.rL,a.hL,a.fD,a.sL].Nodup
 w0:a.w≠0
 r0:a.rL≠0
 h0:a.hL≠0
 least:1≤a.least
 least2:a.least≤8
 bl:1≤a.bl
 bl2:a.bl≤8
 sz:1≤a.sz
 sz2:a.sz≤8
structure Lk (a:Lw) (l:Locs):Prop where
 well:l "well" =some (.ref (.list a.w))
 first:l "first" =some (.ref (.inst .disk a.fD))
 least:l "least" =some (.int a.least)
 held:l "held" =some (.ref (.list a.hL))
 row:l "row" =some (.ref (.list a.rL))
 sides:l "sides" =some (.ref (.list a.sL))
 dot:l ".0" =none
noncomputable def lkNames:List String:= ["well","first","least","held","row","sides",".0"]
theorem Lk.set {a:Lw} {l:Locs} (h:Lk a l) (x:String) (v:V) (hx:lkNames.all (fun y=>decide (y≠x))=true):Lk a (l.set x v):=by
 have f: ∀y∈lkNames,y≠x:=fun y hy=>of_decide_eq_true (List.all_eq_true.mp hx y hy)
 exact⟨(qe5 _ (f _ (.head _))).trans h.well,(qe5 _ (f _ (.tail _ (.head _)))).trans h.first,(qe5 _ (f _ (.tail _ (.tail _ (.head _))))).trans h.least,(qe5 _ (f _ (.tail _ (.tail _ (.tail _ (.head _)))))).trans h.held,(qe5 _ (f _ (.tail _ (.tail _ (.tail _ (.tail _ (.head _))))))).trans h.row,(qe5 _ (f _ (.tail _ (.tail _ (.tail _ (.tail _ (.tail _ (.head _)))))))).trans h.sides,(qe5 _ (f _ (.tail _ (.tail _ (.tail _ (.tail _ (.tail _ (.tail _ (.head _))))))))).trans h.dot⟩
structure TI (a:Lw) (K T:Nat) (Q:List (Option Nat)) (H:List Nat) (P:List Sd) (σ:St):Prop where
 W:Well σ a.w K
 D:DskN σ a.fD a.bl a.sz
 row:σ.heap (.list a.rL)=some (qkn Q)
 held:σ.heap (.list a.hL)=some (qay H)
 sides:σ.heap (.list a.sL)=some (.list (P.map fun s=>sd s.b))
 pool:Pool (Sat a.least a.bl a.sz T Q H) a.prot P σ
 lt: ∀k,a.prot k→k<σ.next
 hnd:H.Nodup
 hlen:H.length≤a.least
 hb: ∀x∈H,x<a.bl
 ql:Q.length≤T
noncomputable def qha:List MS:=match D_law.body with
 | [_,_,_,_,_,_,.forRange _ _ b,_,_]=>b
 |_=> []
noncomputable def qhb:List MS:= [.ifs (.cmp .ne (.call "_law_done" [.var "side",.var "deed"]) (.call "_law_due" [.var "side",.var "deed",.var "held",.var "between"])) [.ret (.bool false)] []]
noncomputable def qhc:List MS:= [.ifs (.not (.call "_law_seen" [.var "side",.var "held",.var "latest"])) [.ret (.bool false)] []]
theorem qm5:qha= [.asgVar "deed" (.call "_law_deed" [.var "well",.var "first",.var "least",.var "held"]),.asgVar "between" (.call "_law_between" [.var "row",.var "held",.item (.var "deed") (.int 1)]),.forL "side" (.var "sides") qhb,
 .expr (.call "_law_led_on" [.var "row",.var "held",.var "deed"]),.asgVar "latest" (.call "_law_latest" [.var "row",.var "held"]),.forL "side" (.var "sides") qhc]:=rfl
theorem Well.go {σ σ':St} {w K:Nat} {X:Nat→Prop} (W:Well σ w K) (g:Go X X σ σ') (h: ¬X w) (hl:w<σ.next):Well σ' w K:=W.keep (g.eq (.list w) hl h)
section
variable {d:Nat} {σ:St}
theorem qq9 {a:Lw} {T way n p t:Nat} {oct:List UInt8} {Q:List (Option Nat)} {H:List Nat} {s:Sd} {l:Locs} (hT:T≤700) (ht:σ.heap (.tup t)=some (qbh way n p oct)) (htO:t<σ.next∧ ¬s.own t) (hh:σ.heap (.list a.hL)=some (qay H)) (hhO:a.hL<σ.next∧ ¬s.own a.hL)
  (hw:way≤7) (hn:n<a.bl) (hp:p<a.sz) (ho:oct.length=a.sz) (h2:way=2→n∉H) (h3:way=3→n∈H) (hr:way<6→n∈H∨H.length<a.least)
  (k1:l "deed" =some (.ref (.tup t))) (k2:l "between" =some (.int (bt H n Q))) (k3:l "held" =some (.ref (.list a.hL))) (S:Sat a.least a.bl a.sz T Q H σ s) {GG:Prop} (kk: ∀σ' O',qbk (qag Pm (d+5)) qhb (l.set "side" (sd s.b)) σ=some (.next,l.set "side" (sd s.b),σ')→Sat a.least a.bl a.sz (T+10) (nQ way n H Q) (nH way n H) σ' ⟨s.b,s.most,O'⟩→Go s.own (side O' s.b) σ σ'→(∀k,side O' s.b k→k<σ'.next)→GG):GG:=by
 obtain⟨hl,hm,g,sh,S⟩:=S
 refine qt5 (turn (d:=d) (⟨S,by(with_reducible exact Nat.le_trans ‹_› (by decide)),by(with_reducible exact Nat.le_trans ‹_› (by decide)),ht,htO.2,htO.1,hh,hhO.2,hhO.1,hn,hp,ho⟩:At σ s.O s.b s.most a.bl a.sz T way n p t a.hL oct H Q g sh) hw h2 h3 (fun q=>(hr q).imp id fun z=>Nat.lt_of_lt_of_le z hl)) fun v σ1 σ2 O2 g2 sh2 r1 r2 hv S2 G2=>?_
 refine kk σ2 O2 ?_ ⟨hl,hm,g2,sh2,S2⟩ G2 (fun k hk=>S2.low hk)
 have e1:evE (qag Pm (d+5)) (l.set "side" (sd s.b)) (.call "_law_done" [.var "side",.var "deed"]) σ=some (v,σ1):=by
  rw [qe2,qai (qa4 (v:=sd s.b) (by simp [Locs.set])) (qai (qa4 (v:= .ref (.tup t)) (by simp [Locs.set,k1])) qby)];exact r1
 have e2:evE (qag Pm (d+5)) (l.set "side" (sd s.b)) (.call "_law_due" [.var "side",.var "deed",.var "held",.var "between"]) σ1=some (v,σ2):=by
  rw [qe2,qai (qa4 (v:=sd s.b) (by simp [Locs.set])) (qai (qa4 (v:= .ref (.tup t)) (by simp [Locs.set,k1])) (qai (qa4 (v:= .ref (.list a.hL)) (by simp [Locs.set,k3])) (qai (qa4 (v:= .int (bt H n Q)) (by simp [Locs.set,k2])) qby)))];exact r2
 have e3:evE (qag Pm (d+5)) (l.set "side" (sd s.b)) (.cmp .ne (.call "_law_done" [.var "side",.var "deed"]) (.call "_law_due" [.var "side",.var "deed",.var "held",.var "between"])) σ=some (.bool false,σ2):=by
  rw [qrk,e1];simp only [bind];rw [e2];rcases hv with rfl|⟨bs,rfl⟩<;>simp [qe1]
 unfold qhb;rw [qbv,qt6,e3];rfl
theorem qra {a:Lw} {T f:Nat} {Q:List (Option Nat)} {H:List Nat} {s:Sd} {l:Locs} (hh:σ.heap (.list a.hL)=some (qay H)) (hf:σ.heap (.list f)=some (qay (Lr H Q))) (hhl:a.hL<σ.next)
  (k1:l "latest" =some (.ref (.list f))) (k3:l "held" =some (.ref (.list a.hL))) (S:Sat a.least a.bl a.sz T Q H σ s) {GG:Prop} (kk: ∀σ',qbk (qag Pm (d+5)) qhc (l.set "side" (sd s.b)) σ=some (.next,l.set "side" (sd s.b),σ')→Sat a.least a.bl a.sz T Q H σ' s→Go noO noO σ σ'→GG):GG:=by
 obtain⟨hl,hm,g,sh,S0⟩:=S
 refine qsx (d:=d+3) S0 hm hh hf hhl fun σ' r G=>?_
 refine kk σ' ?_ ⟨hl,hm,g,sh,S0.frame (fun x hx=>G.eq x (S0.low hx) id) G.le⟩ G
 have e1:evE (qag Pm (d+5)) (l.set "side" (sd s.b)) (.call "_law_seen" [.var "side",.var "held",.var "latest"]) σ=some (.bool true,σ'):=by
  rw [qe2,qai (qa4 (v:=sd s.b) (by simp [Locs.set])) (qai (qa4 (v:= .ref (.list a.hL)) (by simp [Locs.set,k3])) (qai (qa4 (v:= .ref (.list f)) (by simp [Locs.set,k1])) qby))];exact r
 unfold qhc;rw [qbv,qt6,g_not,e1];rfl
end
end Mine.B
end
noncomputable section
namespace Mine.B
theorem DskN.keep {σ σ':St} {fD bl sz:Nat} (D:DskN σ fD bl sz) (h:σ'.heap (.inst .disk fD)=σ.heap (.inst .disk fD)):DskN σ' fD bl sz:=D.imp fun _ q=>h.trans q
section
variable {d:Nat} {σ:St}
theorem qs4 {a:Lw} {K T:Nat} {Q:List (Option Nat)} {H:List Nat} {P:List Sd} {l:Locs} (A:a.Ok) (I:TI a K T Q H P σ) (k:Lk a l) (hK:K≤8000) (hT:T≤700) {GG:Prop} (kk: ∀l' σ' Q' H' P',qbk (qag Pm (d+5)) qha l σ=some (.next,l',σ')→Lk a l'→TI a (K+4) (T+10) Q' H' P' σ'→P'.map Sd.key=P.map Sd.key→GG):GG:=by
 have pw:a.prot a.w:= .inl rfl
 have pr:a.prot a.rL:= .inr (.inl rfl)
 have ph:a.prot a.hL:= .inr (.inr (.inl rfl))
 have pf:a.prot a.fD:= .inr (.inr (.inr (.inl rfl)))
 have ps:a.prot a.sL:= .inr (.inr (.inr (.inr rfl)))
 have hnd:=A.nd
 simp only [List.nodup_cons,List.mem_cons,List.not_mem_nil,or_false,not_or,List.nodup_nil,not_false_eq_true,and_true]at hnd;refine ql4 hnd fun z0_0 z0_1 z0_2 n10=>?_;refine ql4 z0_0 fun n1 n2 n3 n4=>?_;refine qeg z0_1 fun n5 n6 n7=>?_;refine qa1 z0_2 fun n8 n9=>?_
 have hbl:=A.bl2
 have hsz:=A.sz2
 have hHl:=I.hlen
 have hql:=I.ql
 have hls:=A.least2
 refine qs0 (d:=d+3) (least:=a.least) I.W (by(with_reducible exact Nat.le_trans ‹_› (by decide))) A.w0 I.D I.held (I.lt _ pw) (I.lt _ ph) (I.lt _ pf) (fun q=>n2 q.symm) (fun q=>n3 q.symm) A.bl (by(with_reducible exact Nat.lt_of_le_of_lt ‹_› (by decide))) A.sz (by(with_reducible exact Nat.le_trans ‹_› (by decide))) A.least I.hlen I.hb fun way n p t oct σ1 r1 e1 ht1 ht2 hw hn hp ho h2 h3 hr W1 g1=>?_
 have row1:σ1.heap (.list a.rL)=some (qkn Q):=(g1.eq (.list a.rL) (I.lt _ pr) (fun q=>n1 q.symm)).trans I.row
 have held1:σ1.heap (.list a.hL)=some (qay H):=(g1.eq (.list a.hL) (I.lt _ ph) (fun q=>n2 q.symm)).trans I.held
 have sides1:σ1.heap (.list a.sL)=some (.list (P.map fun s=>sd s.b)):=(g1.eq (.list a.sL) (I.lt _ ps) (fun q=>n4 q.symm)).trans I.sides
 have disk1:DskN σ1 a.fD a.bl a.sz:=I.D.keep (g1.eq (.inst .disk a.fD) (I.lt _ pf) (fun q=>n3 q.symm))
 have lt1: ∀k,a.prot k→k<σ1.next:=fun k hk=>Nat.lt_of_lt_of_le (I.lt k hk) g1.le
 refine qm3 (d:=d+4) (n:=n) row1 held1 (lt1 _ pr) (by lia) fun σ2 r2 g2=>?_
 have lt2: ∀k,a.prot k→k<σ2.next:=fun k hk=>Nat.lt_of_lt_of_le (lt1 k hk) g2.le
 let prot1:Nat→Prop:=fun k=>a.prot k∨k=t
 have pool2:Pool (Sat a.least a.bl a.sz T Q H) prot1 P σ2:=by
  have p0:Pool (Sat a.least a.bl a.sz T Q H) prot1 P σ:=I.pool.more fun k hk=>hk.imp id fun q s hs z=>by
   have:=(I.pool.low s hs k z).1
   lia
  exact(p0.go (Sat.framed _ _ _ _ _ _) g1 fun k hk=> .inl (by rw [show k=a.w from hk];exact pw)).go (Sat.framed _ _ _ _ _ _) g2 fun k hk=>hk.elim
 let l2:=(l.set "deed" (.ref (.tup t))).set "between" (.int (bt H n Q))
 have k2:Lk a l2:=(k.set "deed" _ rfl).set "between" _ rfl
 have tup2:σ2.heap (.tup t)=some (qbh way n p oct):=(g2.eq (.tup t) ht2 id).trans e1
 have sides2:σ2.heap (.list a.sL)=some (.list (P.map fun s=>sd s.b)):=(g2.eq (.list a.sL) (lt1 _ ps) id).trans sides1
 have held2:σ2.heap (.list a.hL)=some (qay H):=(g2.eq (.list a.hL) (lt1 _ ph) id).trans held1
 have row2:σ2.heap (.list a.rL)=some (qkn Q):=(g2.eq (.list a.rL) (lt1 _ pr) id).trans row1
 have tl2:t<σ2.next:=Nat.lt_of_lt_of_le ht2 g2.le
 refine Pool.loop (A':=Sat a.least a.bl a.sz (T+10) (nQ way n H Q) (nH way n H)) (qar:=fun s=>decide (qav (.ref (.list a.sL)) s=some (P.map fun s=>sd s.b))) (turn:=fun u l s=>qbk (qag Pm (d+5)) qhb (l.set "side" u) s)
  (Lk:=fun l=>Lk a l∧l "deed" =some (.ref (.tup t))∧l "between" =some (.int (bt H n Q))) pool2 (Sat.framed _ _ _ _ _ _) (Sat.framed _ _ _ _ _ _) (fun k hk=>hk.elim (lt2 k) fun q=>q ▸ tl2)
  (fun s hs=>by simp [hs (.list a.sL) (.inl ps),sides2])
  (fun s s1 l hx hpk kl hS=>by
   refine qq9 (d:=d) (l:=l) (by(with_reducible assumption)) ((hx (.tup t) (.inr rfl)).trans tup2) (hpk t (.inr rfl)) ((hx (.list a.hL) (.inl ph)).trans held2) (hpk a.hL (.inl ph)) hw hn hp ho h2 h3 hr kl.2.1 kl.2.2 kl.1.held hS fun s2 O' q1 q2 q3 q4=>?_
   exact⟨_,s2,O',q1,⟨kl.1.set "side" _ rfl,by simp [Locs.set,kl.2.1],by simp [Locs.set,kl.2.2]⟩,q2,q3,q4⟩)
  ⟨k2,by simp [l2,Locs.set],by simp [l2,Locs.set]⟩ fun l3 σ3 P3 r3 k3 pool3 key3 le3 keep3=>?_
 have lt3: ∀k,a.prot k→k<σ3.next:=fun k hk=>Nat.lt_of_lt_of_le (lt2 k hk) le3
 have row3:σ3.heap (.list a.rL)=some (qkn Q):=(keep3 (.list a.rL) (.inl pr)).trans row2
 have held3:σ3.heap (.list a.hL)=some (qay H):=(keep3 (.list a.hL) (.inl ph)).trans held2
 have tup3:σ3.heap (.tup t)=some (qbh way n p oct):=(keep3 (.tup t) (.inr rfl)).trans tup2
 have keys:P3.map (fun s=>sd s.b)=P.map fun s=>sd s.b:=by
  have:=congrArg (List.map fun q:Nat×Nat=>sd q.1) key3
  rw [List.map_map,List.map_map]at this;exact this
 refine qv9 (d:=d+4) row3 held3 tup3 n5 A.r0 A.h0 (by(with_reducible exact Nat.le_trans ‹_› (Nat.le_trans ‹_› (by decide)))) (by(with_reducible exact Nat.le_trans ‹_› (Nat.le_trans ‹_› (by decide)))) hw h2 h3 I.hnd fun σ4 r4 row4 held4 g4=>?_
 have lsp: ∀k,ls a.rL a.hL k→a.prot k:=fun k hk=>by
  rcases hk with rfl|rfl
  ·exact pr
  ·exact ph
 have pool4:Pool (Sat a.least a.bl a.sz (T+10) (nQ way n H Q) (nH way n H)) a.prot P3 σ4:=(pool3.more fun k hk=> .inl (.inl hk)).go (Sat.framed _ _ _ _ _ _) g4 lsp
 have lt4: ∀k,a.prot k→k<σ4.next:=fun k hk=>Nat.lt_of_lt_of_le (lt3 k hk) g4.le
 have qlen:(nQ way n H Q).length≤Q.length+1:=by
  unfold nQ;split
  ·simp
  ·split<;>simp
 refine qo0 (d:=d+4) row4 held4 (lt4 _ pr) (lt4 _ ph) (by lia) fun σ5 r5 g5 lat5 nx5=>?_
 let f:=σ4.next
 let prot2:Nat→Prop:=fun k=>a.prot k∨k=f
 have pool5:Pool (Sat a.least a.bl a.sz (T+10) (nQ way n H Q) (nH way n H)) prot2 P3 σ5:=
  (pool4.more (prot':=prot2) fun k hk=>hk.imp id fun q s hs z=>by
   have:=(pool4.low s hs k z).1
   have q:k=σ4.next:=q
   (with_reducible exact qwb ‹_› ‹_›)).go (Sat.framed _ _ _ _ _ _) g5 fun k hk=>hk.elim
 have lt5: ∀k,a.prot k→k<σ5.next:=fun k hk=>Nat.lt_of_lt_of_le (lt4 k hk) g5.le
 have held5:σ5.heap (.list a.hL)=some (qay (nH way n H)):=(g5.eq (.list a.hL) (lt4 _ ph) id).trans held4
 have row5:σ5.heap (.list a.rL)=some (qkn (nQ way n H Q)):=(g5.eq (.list a.rL) (lt4 _ pr) id).trans row4
 have sides5:σ5.heap (.list a.sL)=some (.list (P3.map fun s=>sd s.b)):=by
  rw [keys,g5.eq (.list a.sL) (lt4 _ ps) id,g4.eq (.list a.sL) (lt3 _ ps) (fun q=>q.elim (fun z=>n7 z.symm) fun z=>n9 z.symm),keep3 (.list a.sL) (.inl ps)];exact sides2
 let l5:=l3.set "latest" (.ref (.list f))
 have k5:Lk a l5:=k3.1.set "latest" _ rfl
 refine Pool.loop (A':=Sat a.least a.bl a.sz (T+10) (nQ way n H Q) (nH way n H)) (qar:=fun s=>decide (qav (.ref (.list a.sL)) s=some (P3.map fun s=>sd s.b))) (turn:=fun u l s=>qbk (qag Pm (d+5)) qhc (l.set "side" u) s)
  (Lk:=fun l=>Lk a l∧l "latest" =some (.ref (.list f))) pool5 (Sat.framed _ _ _ _ _ _) (Sat.framed _ _ _ _ _ _) (fun k hk=>hk.elim (lt5 k) fun q=>by have q:k=σ4.next:=q;lia)
  (fun s hs=>by simp [hs (.list a.sL) (.inl ps),sides5])
  (fun s s1 l hx hpk kl hS=>by
   refine qra (d:=d) (l:=l) ((hx (.list a.hL) (.inl ph)).trans held5) ((hx (.list f) (.inr rfl)).trans lat5) (hpk a.hL (.inl ph)).1 kl.2 kl.1.held hS fun s2 q1 q2 q3=>?_
   obtain⟨g9,sh9,S9⟩:=q2.2.2
   exact⟨_,s2,s.O,q1,⟨kl.1.set "side" _ rfl,by simp [Locs.set,kl.2]⟩,q2,qh7 q3,fun k hk=>S9.low hk⟩)
  ⟨k5,by simp [l5,Locs.set]⟩ fun l6 σ6 P6 r6 k6 pool6 key6 le6 keep6=>?_
 have keys6:P6.map (fun s=>sd s.b)=P3.map fun s=>sd s.b:=by
  have:=congrArg (List.map fun q:Nat×Nat=>sd q.1) key6
  rw [List.map_map,List.map_map]at this;exact this
 have lt6: ∀k,a.prot k→k<σ6.next:=fun k hk=>Nat.lt_of_lt_of_le (lt5 k hk) le6
 have wkeep:σ6.heap (.list a.w)=σ1.heap (.list a.w):=by
  rw [keep6 (.list a.w) (.inl pw),g5.eq (.list a.w) (lt4 _ pw) id,g4.eq (.list a.w) (lt3 _ pw) (fun q=>q.elim n1 n2),keep3 (.list a.w) (.inl pw),g2.eq (.list a.w) (lt1 _ pw) id]
 have dkeep:σ6.heap (.inst .disk a.fD)=σ1.heap (.inst .disk a.fD):=by
  rw [keep6 (.inst .disk a.fD) (.inl pf),g5.eq (.inst .disk a.fD) (lt4 _ pf) id,g4.eq (.inst .disk a.fD) (lt3 _ pf) (fun q=>q.elim (fun z=>n6 z.symm) fun z=>n8 z.symm),keep3 (.inst .disk a.fD) (.inl pf),g2.eq (.inst .disk a.fD) (lt1 _ pf) id]
 refine kk l6 σ6 (nQ way n H Q) (nH way n H) P6 ?_ k6.1 ⟨W1.keep wkeep,disk1.keep dkeep,(keep6 (.list a.rL) (.inl pr)).trans row5,(keep6 (.list a.hL) (.inl ph)).trans held5,?_,pool6.more fun k hk=> .inl (.inl hk),lt6,?_,?_,?_,by lia⟩ (key6.trans key3)
 ·rw [qm5];have v1:evE (qag Pm (d+5)) l (.call "_law_deed" [.var "well",.var "first",.var "least",.var "held"]) σ=some (.ref (.tup t),σ1):=by
   rw [qe2,qai (qa4 k.well) (qai (qa4 k.first) (qai (qa4 k.least) (qai (qa4 k.held) qby)))];exact r1
  rw [qap (l':=l.set "deed" (.ref (.tup t))) (σ':=σ1) (by rw [qfm,v1];rfl)];have kd:=k.set "deed" (.ref (.tup t)) rfl
  have v2:evE (qag Pm (d+5)) (l.set "deed" (.ref (.tup t))) (.call "_law_between" [.var "row",.var "held",.item (.var "deed") (.int 1)]) σ1=some (.int (bt H n Q),σ2):=by
   have vi:evE (qag Pm (d+5)) (l.set "deed" (.ref (.tup t))) (.item (.var "deed") (.int 1)) σ1=some (.int n,σ1):=by simp(decide:=true) [-String.reduceEq,-String.reduceNe,-BEq.rfl,e1,qbh]
   rw [qe2,qai (qa4 kd.row) (qai (qa4 kd.held) (qai vi qby))];exact r2
  rw [qap (l':=l2) (σ':=σ2) (by rw [qfm,v2];rfl)];rw [qap (l':=l3) (σ':=σ3) (by
   rw [qgr (v:= .ref (.list a.sL)) (σ₁:=σ2) (vs:=P.map fun s=>sd s.b) (qa4 k2.sides) (by simp [sides2])];exact r3)]
  have v4:evE (qag Pm (d+5)) l3 (.call "_law_led_on" [.var "row",.var "held",.var "deed"]) σ3=some (.none,σ4):=by
   rw [qe2,qai (qa4 k3.1.row) (qai (qa4 k3.1.held) (qai (qa4 k3.2.1) qby))];exact r4
  rw [qap (l':=l3) (σ':=σ4) (by rw [qo9,v4];rfl)];have v5:evE (qag Pm (d+5)) l3 (.call "_law_latest" [.var "row",.var "held"]) σ4=some (.ref (.list f),σ5):=by
   rw [qe2,qai (qa4 k3.1.row) (qai (qa4 k3.1.held) qby)];exact r5
  rw [qap (l':=l5) (σ':=σ5) (by rw [qfm,v5];rfl)];rw [qap (l':=l6) (σ':=σ6) (by
   rw [qgr (v:= .ref (.list a.sL)) (σ₁:=σ5) (vs:=P3.map fun s=>sd s.b) (qa4 k5.sides) (by simp [sides5])];exact r6)]
  rw [qs8]
 ·rw [keep6 (.list a.sL) (.inl ps),sides5,keys6]
 ·unfold nH;split
  ·next q=>
   rw [List.nodup_append];exact⟨I.hnd,by simp,fun x hx y hy z=>h2 q (by rw [←List.mem_singleton.mp hy,←z];exact hx)⟩
  ·split
   ·exact I.hnd.erase n
   ·exact I.hnd
 ·unfold nH;split
  ·next q=>
   have:=(hr (by lia)).resolve_left (h2 q)
   simp
   lia
  ·split
   ·have:=List.length_erase_le (a:=n) (l:=H)
    (with_reducible exact Nat.le_trans ‹_› ‹_›)
   ·exact hHl
 ·unfold nH;split
  ·intro x hx;rcases List.mem_append.mp hx with q|q
   ·exact I.hb x q
   ·rw [List.mem_singleton.mp q];exact hn
  ·split
   ·exact fun x hx=>I.hb x (List.mem_of_mem_erase hx)
   ·exact I.hb
end
end Mine.B
end
noncomputable section
namespace Mine.B
noncomputable def qia:List MS:= [.ifs (.cmp .ne (.comp (.meth (.attr (.item (.var "side") (.str "cache")) "disk") "read" [.var "number"]) "number" 1 [.attr (.var "first") "blocks"] none) (.item (.var "side") (.str "kept"))) [.ret (.bool false)] []]
theorem qjm {α:Type} (h:α→List UInt8): ∀l:List α,bytess? (l.map fun i=>V.bytes (h i))=some (l.map h)
 | []=>rfl
 |n::r=>by simp only [List.map_cons,bytess?,qjm h r];rfl
theorem qo5 {bl:Nat} (h:1≤bl) (f:Nat→List UInt8):ints? ((List.range bl).map fun i=>V.bytes (f i))=none:=by
 obtain⟨k,rfl⟩: ∃k,bl=k+1:=⟨bl- 1,by lia⟩
 rw [List.range_succ_eq_map];rfl
section
variable {d:Nat} {σ:St}
theorem qjn {a:Lw} (A:a.Ok): ∀(us:List V) (K T:Nat) (Q:List (Option Nat)) (H:List Nat) (P:List Sd) (l:Locs) (σ:St),TI a K T Q H P σ→Lk a l→K+4*us.length≤8000→T+10*us.length≤700→
  ∃l' σ' Q' H' P',qch (fun _=>true) (fun u l σ=>qbk (qag Pm (d+5)) qha (l.set "turn" u) σ) us l σ=some (.next,l',σ')∧Lk a l'∧TI a (K+4*us.length) (T+10*us.length) Q' H' P' σ'
 | [],K,T,Q,H,P,l,σ,I,k,_,_=>⟨l,σ,Q,H,P,qcn rfl,k,I⟩
 |u::us,K,T,Q,H,P,l,σ,I,k,hK,hT=>by
  simp only [List.length_cons]at hK hT ⊢;rw [qbn rfl];refine qs4 (d:=d) A I (k.set "turn" u rfl) (by(with_reducible exact oq2 ‹_›)) (by(with_reducible exact oq2 ‹_›)) fun l1 σ1 Q1 H1 P1 r1 k1 I1 _=>?_
  rw [r1];refine ex5_3 (qjn A us (K+4) (T+10) Q1 H1 P1 l1 σ1 I1 k1 (by lia) (by lia)) fun l' σ' Q' H' P' r2 k2 I2=>?_
  exact⟨l',σ',Q',H',P',r2,k2,by rw [show K+4*(us.length+1)=K+4+4*us.length by lia,show T+10*(us.length+1)=T+10+10*us.length by lia];exact I2⟩
theorem qs5 {a:Lw} {T:Nat} {Q:List (Option Nat)} {H:List Nat} {s:Sd} {l:Locs} (A:a.Ok) (hD:DskN σ a.fD a.bl a.sz) (k:Lk a l) (S:Sat a.least a.bl a.sz T Q H σ s) {GG:Prop} (kk: ∀σ',qbk (qag Pm (d+5)) qia (l.set "side" (sd s.b)) σ=some (.next,l.set "side" (sd s.b),σ')→Sat a.least a.bl a.sz T Q H σ' s→Go noO noO σ σ'→GG):GG:=by
 obtain⟨hl,hm,g,sh,S⟩:=S
 refine qaj hD fun dr hD=>?_
 refine qaj S.cr.disk fun dw hdk=>?_
 refine qao S.cr.lats fun ks hks _ hkg=>?_
 have hbl:=A.bl2
 let lA:=l.set "side" (sd s.b)
 have kA:Lk a lA:=k.set "side" _ rfl
 let s1:=σ.new .list (qm1 a.bl g.lat)
 have g1:Go noO noO σ s1:=Go.newMore rfl
 have hside: ∀x:String,evE (qag Pm (d+5)) (lA.set "number" (.int 0)) (.var "side") σ=some (sd s.b,σ):=fun x=>qa4 (by simp [lA,Locs.set])
 have vcomp:evE (qag Pm (d+5)) lA (.comp (.meth (.attr (.item (.var "side") (.str "cache")) "disk") "read" [.var "number"]) "number" 1 [.attr (.var "first") "blocks"] none) σ=some (.ref (.list σ.next),s1):=by
  have hb1:(-100000:Int)≤a.bl:=by lia
  have hb3:(a.bl:Int)≤100000:=by lia
  have:=qf4 (C:=qag Pm (d+5)) (l:=lA) (elt:= .meth (.attr (.item (.var "side") (.str "cache")) "disk") "read" [.var "number"]) (x:="number") (k:=1) (its:= [.attr (.var "first") "blocks"]) (σ:=σ) (σ₁:=σ) (ws:= [.int a.bl]) (src:=qbm 0 a.bl) (f:=fun v=>match v with| .int i=> .bytes (g.lat i.toNat)|_=> .none) kA.dot
   (qai (σ₁:=σ) (by simp(decide:=true) [-String.reduceEq,-String.reduceNe,-BEq.rfl,kA.first,hD]) qby) (by simp [hb1,hb3]) rfl (by
    intro v hv;rw [qcz]at hv;refine qac (List.mem_map.mp hv) fun i hi e6_2=>?_;subst e6_2
    have hi:=List.mem_range.mp hi
    have hr:=qh2 (d:=d+3) hdk hks hi S.cr.szl
    rw [hkg i hi]at hr;refine qc4 (c:= .disk) (i:=s.b+1) (vs:= [.int i]) (by simp(decide:=true) [-String.reduceEq,-String.reduceNe,-BEq.rfl,lA,sd,S.br.side,S.cr.cache,qbl]) hdk (qai (qa4 (by simp [Locs.set])) qby) ?_
    rw [hr];simp)
  rw [this];have e:(qbm 0 a.bl).map (fun v=>match v with| .int i=>V.bytes (g.lat i.toNat)|_=>V.none)=(List.range a.bl).map fun n=>V.bytes (g.lat n):=by
   rw [qcz,List.map_map];exact List.map_congr_left fun i _=>by simp [Function.comp]
  rw [e];rfl
 have hside1:s1.heap (.dict (s.b+17))=_:=(g1.eq (.dict (s.b+17)) (by have:=S.lt;show s.b+17<_;(with_reducible exact qo6 ‹_› (by decide))) id).trans S.br.side
 have hkept1:s1.heap (.list (s.b+12))=some (qm1 a.bl g.lat):=(g1.eq (.list (s.b+12)) (by have:=S.lt;show s.b+12<_;(with_reducible exact qo6 ‹_› (by decide))) id).trans S.br.kept
 have hnew:s1.heap (.list σ.next)=some (qm1 a.bl g.lat):=qaz σ .list _
 have vitem:evE (qag Pm (d+5)) lA (.item (.var "side") (.str "kept")) s1=some (.ref (.list (s.b+12)),s1):=by
  simp(decide:=true) [-String.reduceEq,-String.reduceNe,-BEq.rfl,lA,sd,hside1]
 have i1:=qo5 A.bl g.lat
 have i2:=qjm g.lat (List.range a.bl)
 have vcmp:evE (qag Pm (d+5)) lA (.cmp .ne (.comp (.meth (.attr (.item (.var "side") (.str "cache")) "disk") "read" [.var "number"]) "number" 1 [.attr (.var "first") "blocks"] none) (.item (.var "side") (.str "kept"))) σ=some (.bool false,s1):=by
  rw [qrk,vcomp];simp only [bind];rw [vitem];simp only [qj7,qj8,qg7,qnl,qnm,qnn,qno,hnew,hkept1,qm1,i1,i2,Option.map_some,decide_true,Bool.not_true,qe1]
 refine kk s1 ?_ ⟨hl,hm,g,sh,S.frame (fun x hx=>g1.eq x (S.low hx) id) g1.le⟩ g1
 show qbk _ qia lA σ=_
 unfold qia;rw [qbv,qt6,vcmp];rfl
theorem qjo {fD kd lt u bl sz T least:Nat} {B:Nat→List UInt8} {l:Locs} (hb:1≤bl) (hb2:bl≤1000) (hs:1≤sz) (hs2:sz≤64) (h1:1≤least) (hf:l "first" =some (.ref (.inst .disk fD))): ∀(ms:List Nat) (σ:St),FD σ fD kd lt u bl sz T B→(∀m∈ms,least≤m∧m≤60)→
  ∃(P:List Sd) (σ':St),qgd (fun v σ=>qkr true none (evE (qag Pm (d+5)) (l.set "most" v) (.call "_law_side" [.var "first",.var "most"])) σ) (ms.map fun m:Nat=>V.int m) σ=some (P.map fun s:Sd=>sd s.b,σ')∧
   (∀s∈P,Sat least bl sz T [] [] σ' s∧ ∀k,s.own k→σ.next≤k∧k<σ'.next)∧P.Pairwise (fun s s'=> ∀k,s.own k→ ¬s'.own k)∧Go noO noO σ σ'
 | [],σ,F,_=>⟨[],σ,rfl,(fun s h=>nomatch h),.nil,.refl ..⟩
 |m::ms,σ,F,hm=>by
  have hm1:=hm m (.head _)
  refine qt1 (qs2 (d:=d+1) (most:=m) F hb hb2 hs hs2 (by lia) hm1.2) fun σ1 r1 S1 n1 g1=>?_
  have F1:FD σ1 fD kd lt u bl sz T B:=F.go (fun x hx=>g1.eq x (or4 hx F.lt1 F.lt2 F.lt3 F.lt4) id) g1.le
  refine qyb (qjo hb hb2 hs hs2 h1 hf ms σ1 F1 fun m' h'=>hm m' (.tail _ h')) fun P σ' r2 h2 h3 g2=>?_
  have hown: ∀k,side (oIni σ.next) σ.next k→σ.next≤k∧k<σ1.next:=fun k hk=>by
   rcases hk with q|q
   ·have:=q.1;have:=q.2;lia
   ·have:=q.1;have:=q.2;lia
  have e1:evE (qag Pm (d+5)) (l.set "most" (.int m)) (.call "_law_side" [.var "first",.var "most"]) σ=some (sd σ.next,σ1):=by
   rw [qe2,qai (qa4 (v:= .ref (.inst .disk fD)) (by simp [Locs.set,hf])) (qai (qa4 (v:= .int m) (by simp [Locs.set])) qby)];exact r1
  refine⟨⟨σ.next,m,oIni σ.next⟩::P,σ',?_,fun s hs=>?_,List.pairwise_cons.mpr ⟨fun s' hs' k hk hq=>?_,h3⟩,g1.trans g2⟩
  ·rw [List.map_cons];show bind (bind (evE (qag Pm (d+5)) (l.set "most" (.int m)) (.call "_law_side" [.var "first",.var "most"]) σ) _) _=_
   rw [e1];show bind (qgd _ _ _) _=_
   rw [r2];rfl
  ·rcases List.mem_cons.mp hs with rfl|hs
   ·exact⟨⟨hm1.1,hm1.2,_,_,S1.frame (fun x hx=>g2.eq x (S1.low hx) id) g2.le⟩,fun k hk=>⟨(hown k hk).1,Nat.lt_of_lt_of_le (hown k hk).2 g2.le⟩⟩
   ·exact⟨(h2 s hs).1,fun k hk=>⟨Nat.le_trans g1.le ((h2 s hs).2 k hk).1,((h2 s hs).2 k hk).2⟩⟩
  ·have a1:=(hown k hk).2
   have a2:=((h2 s' hs').2 k hq).1
   (with_reducible exact oq38 ‹_› ‹_›)
end
end Mine.B
end
noncomputable section
namespace Mine.B
section
variable {d:Nat} {σ:St}
theorem qm6 {C:Calls} {l:Locs} {w K c m:Nat} {e1 e2:ME} {wd:Bool} {r2:Nat} (hwd:l "wide" =some (.bool wd)) (hd: ∃(r:Nat) (σ':St),evE C l e1 σ=some (.int (c+r:Nat),σ')∧r<m∧Well σ' w (K+1)∧Go (one w) (one w) σ σ'∧σ'.next=σ.next) (h2:evE C l e2 σ=some (.int r2,σ)) (W:Well σ w K):
  ∃(r:Nat) (σ':St),evE C l (.ite (.var "wide") e1 e2) σ=some (.int r,σ')∧(r=r2∨c≤r∧r<c+m)∧Well σ' w (K+1)∧Go (one w) (one w) σ σ'∧σ'.next=σ.next:=by
 cases wd with
 |true=>
  refine qt2 hd fun r σ' q1 q2 q3 q4 q5=>?_
  refine⟨c+r,σ',?_,.inr ⟨by(with_reducible exact Nat.le_add_right _ _),by lia⟩,q3,q4,q5⟩
  rw [qrl,qa4 hwd];simp only [bind,isB,q1]
 |false=>
  refine⟨r2,σ,?_,.inl rfl,?_,.refl ..,rfl⟩
  ·rw [qrl,qa4 hwd];simp only [bind,isB,h2]
  ·refine qt4 W fun a b c h1 h2 h3 h4 h5 h6=>?_
   exact⟨a,b,c,h1,h2,h3,h4,h5,by lia⟩
theorem qrb {l:Locs} {w K m:Nat} {e:ME} (W:Well σ w K) (hm:1≤m) (hm2:m<1000) (hK:K≤10000) (hw:w≠0) (hl:l "well" =some (.ref (.list w))) (he:evE (qag Pm (d+1)) l e σ=some (.int m,σ)):
  ∃(r:Nat) (σ':St),evE (qag Pm (d+1)) l (.call "_law_draw" [.var "well",e]) σ=some (.int r,σ')∧r<m∧Well σ' w (K+1)∧Go (one w) (one w) σ σ'∧σ'.next=σ.next:=by
 refine qf7 (d:=d) W hm hm2 hK hw fun r σ' q1 q2 q3 q4 q5=>?_
 refine⟨r,σ',?_,q2,q3,q4,q5⟩
 rw [qe2,qai (qa4 hl) (qai he qby)];exact q1
theorem qkl {l:Locs} {w K m c:Nat} {e ec:ME} (W:Well σ w K) (hm:1≤m) (hm2:m<1000) (hK:K≤10000) (hw:w≠0) (hl:l "well" =some (.ref (.list w))) (he:evE (qag Pm (d+1)) l e σ=some (.int m,σ)) (hc:evE (qag Pm (d+1)) l ec σ=some (.int c,σ)):
  ∃(r:Nat) (σ':St),evE (qag Pm (d+1)) l (.bin .add ec (.call "_law_draw" [.var "well",e])) σ=some (.int (c+r:Nat),σ')∧r<m∧Well σ' w (K+1)∧Go (one w) (one w) σ σ'∧σ'.next=σ.next:=by
 refine qt2 (qrb (d:=d) W hm hm2 hK hw hl he) fun r σ' q1 q2 q3 q4 q5=>?_
 refine⟨r,σ',?_,q2,q3,q4,q5⟩
 rw [qyq,hc];simp only [bind];rw [q1];show qe8 .add (.int _) (.int _) _=_
 rw [qqs];congr 3
theorem qrc {C:Calls} {l:Locs} {sL:Nat} {ns:List Int} (h:σ.heap (.list sL)=some (.list (ns.map V.int))) (hs:sL<σ.next) (hl:l "script" =some (.ref (.list sL))) {GG:Prop} (kk: ∀s' sL' ns',evE C l (.ite (.cmp .ne (.var "script") (.lst [])) (.var "script") (.lst [.int 2433315606800765229047156627445761])) σ=some (.ref (.list sL'),s')→s'.heap (.list sL')=some (.list (List.map V.int ns'))→sL'<s'.next→Go noO noO σ s'→GG):GG:=by
 let s1:=σ.new .list (.list [])
 have g1:Go noO noO σ s1:=Go.newMore rfl
 have h1:s1.heap (.list sL)=some (.list (ns.map V.int)):=(g1.eq (.list sL) hs id).trans h
 have h2:s1.heap (.list σ.next)=some (.list []):=qaz σ .list _
 have hi:=qf8 id ns
 simp only [id]at hi;have hi:ints? (ns.map V.int)=some ns:=by rw [show ns.map V.int=ns.map (fun i=>V.int i)from rfl,hi];simp
 have hlst:evE C l (.lst []) σ=some (.ref (.list σ.next),s1):=by
  rfl
 have hc:evE C l (.cmp .ne (.var "script") (.lst [])) σ=some (.bool (!decide (ns= [])),s1):=by
  rw [qrk,qa4 hl];simp only [bind];rw [hlst];simp only [qj7,qj8,qg7,qnl,qnm,qnn,qno,h1,h2,hi];rfl
 by_cases e:ns= []
 ·refine kk (s1.new .list (.list [.int 2433315606800765229047156627445761])) s1.next ([2433315606800765229047156627445761]) ?_ (qaz s1 .list _) (Nat.lt_succ_self _) (g1.trans (Go.newMore rfl))
  rw [qrl,hc];simp only [bind,isB,e,decide_true,Bool.not_true];rfl
 ·refine kk s1 sL ns ?_ h1 (Nat.lt_succ_of_lt hs) g1
  rw [qrl,hc];simp only [bind,isB,e,decide_false,Bool.not_false];exact qa4 hl
end
end Mine.B
end
noncomputable section
namespace Mine.B
noncomputable def st0 (script:List Int):St:=⟨fun l=>if l= .list 0 then some (.list (script.map .int))else none,1⟩
theorem TI.draw {a:Lw} {K T:Nat} {Q:List (Option Nat)} {H:List Nat} {P:List Sd} {σ σ':St} (A:a.Ok) (I:TI a K T Q H P σ) (g:Go (one a.w) (one a.w) σ σ') (W:Well σ' a.w (K+1)):TI a (K+1) T Q H P σ':=by
 have hnd:=A.nd
 simp only [List.nodup_cons,List.mem_cons,List.not_mem_nil,or_false,not_or,List.nodup_nil,not_false_eq_true,and_true]at hnd;refine qa1 hnd fun z0_0 _=>?_;refine ql4 z0_0 fun n1 n2 n3 n4=>?_
 exact {I with
  W:=W
  D:=I.D.keep (g.eq (.inst .disk a.fD) (I.lt _ (.inr (.inr (.inr (.inl rfl))))) (fun q=>n3 q.symm))
  row:=(g.eq (.list a.rL) (I.lt _ (.inr (.inl rfl))) (fun q=>n1 q.symm)).trans I.row
  held:=(g.eq (.list a.hL) (I.lt _ (.inr (.inr (.inl rfl)))) (fun q=>n2 q.symm)).trans I.held
  sides:=(g.eq (.list a.sL) (I.lt _ (.inr (.inr (.inr (.inr rfl))))) (fun q=>n4 q.symm)).trans I.sides
  pool:=I.pool.go (Sat.framed _ _ _ _ _ _) g fun k hk=> .inl hk
  lt:=fun k hk=>Nat.lt_of_lt_of_le (I.lt k hk) g.le}
section
variable {d:Nat}
theorem qwa {a:Lw} {l:Locs} {σ:St} {P:List Sd} {wd:Bool} {T:Nat} (A:a.Ok) (I:TI a 3 T [] [] P σ) (hT:T≤20) (k:Lk a l) (hw:l "wide" =some (.bool wd)) {GG:Prop} (kk: ∀l' σ',qbk (qag Pm (d+5)) (D_law.body.drop 6) l σ=some (.ret (.bool true),l',σ')→GG):GG:=by
 obtain⟨N,σ1,e1,hN,W1,g1,_⟩:=qm6 (σ:=σ) (C:=qag Pm (d+5)) (c:=16) (m:=6) (r2:=8) (e1:= .bin .add (.int 16) (.call "_law_draw" [.var "well",.int 6])) (e2:= .int 8) hw
  (qkl (d:=d+4) (c:=16) (m:=6) I.W (by decide) (by decide) (by decide) A.w0 k.well rfl rfl) rfl I.W
 have I1:=I.draw A g1 W1
 have hN21:N≤21:=by lia
 obtain⟨l2,σ2,Q2,H2,P2,e2,k2,I2⟩:=qjn (d:=d) A ((List.range N).map fun i:Nat=>V.int i) 4 T [] [] P l σ1 I1 k (by simp;lia) (by simp;lia)
 have ps:a.prot a.sL:= .inr (.inr (.inr (.inr rfl)))
 have pf:a.prot a.fD:= .inr (.inr (.inr (.inl rfl)))
 refine Pool.loop (A':=Sat a.least a.bl a.sz (T+10*((List.range N).map fun i:Nat=>V.int i).length) Q2 H2) (qar:=fun s=>decide (qav (.ref (.list a.sL)) s=some (P2.map fun s=>sd s.b))) (turn:=fun u l s=>qbk (qag Pm (d+5)) qia (l.set "side" u) s)
  (Lk:=Lk a) I2.pool (Sat.framed _ _ _ _ _ _) (Sat.framed _ _ _ _ _ _) I2.lt (fun s hs=>by simp [hs (.list a.sL) ps,I2.sides])
  (fun s s1 l hx hpk kl hS=>by
   refine qs5 (d:=d) A (I2.D.keep (hx (.inst .disk a.fD) pf)) kl hS fun s2 q1 q2 q3=>?_
   obtain⟨g9,sh9,S9⟩:=q2.2.2
   exact⟨_,s2,s.O,q1,kl.set "side" _ rfl,q2,qh7 q3,fun k hk=>S9.low hk⟩) k2 fun l3 σ3 P3 e3 k3 _ _ _ _=>?_
 refine kk l3 σ3 ?_
 show qbk (qag Pm (d+5)) [.forRange "turn" (.ite (.var "wide") (.bin .add (.int 16) (.call "_law_draw" [.var "well",.int 6])) (.int 8)) qha,.forL "side" (.var "sides") qia,.ret (.bool true)] l σ=_
 rw [qap (l':=l2) (σ':=σ2) (by rw [qh9 e1 (by(with_reducible exact Nat.le_trans ‹_› (by decide)))];exact e2)];rw [qap (l':=l3) (σ':=σ3) (by
  rw [qgr (v:= .ref (.list a.sL)) (σ₁:=σ2) (vs:=P2.map fun s=>sd s.b) (qa4 k2.sides) (by simp [I2.sides])];exact e3)]
 rw [qbv,ql6,qyn];rfl
theorem nd5 {w f s:Nat} (h:w<f) (g:f+8≤s): [w,f+4,f+4+1,f,s].Nodup:=by
 simp only [List.nodup_cons,List.mem_cons,List.not_mem_nil,or_false,not_or,List.nodup_nil,not_false_eq_true,and_true];lia
theorem in5 {k w f s:Nat} (h:w<f) (g:f+8≤s) (q:k=w∨k=f+4∨k=f+4+1∨k=f∨k=s):k<s+1:=by lia
theorem no5 {k w f s:Nat} (h:w<f) (g:f+8≤k) (g2:k<s) (q:k=w∨k=f+4∨k=f+4+1∨k=f∨k=s):False:=by lia
theorem nofs {k f:Nat} (hk:k<f∨f+4≤k) (q:k=f∨k=f+1∨k=f+2∨k=f+3):False:=by lia
theorem bnd5 {b r:Nat} (hb:b≤8) (hr:r≤2): -100000≤((1+r:Nat):Int)∧((1+r:Nat):Int)≤100000∧ -100000≤(b:Int)+2∧(b:Int)+2≤100000:=by lia
theorem up5 {b m n k:Nat} (h:b=m∨n≤b∧b<k) (e:m≤k):b≤k:=h.elim (fun q=>q ▸ e) fun q=>Nat.le_of_lt q.2
theorem law_run (ns:List Int): ∃σ',qag Pm (d+6) (.f "law") [.ref (.list 0)] (st0 ns)=some (.bool true,σ'):=by
 refine qrh fun GG out=>?_
 let σ:=st0 ns
 have hσ:σ.heap (.list 0)=some (.list (ns.map V.int)):=by
  show(if Loc.list 0=Loc.list 0 then some (MObj.list (ns.map V.int))else none)=_
  exact if_pos rfl
 let lA:=l0.set "script" (.ref (.list 0))
 let C:=qag Pm (d+5)
 refine qrc (C:=C) (l:=lA) hσ (by show 0<1;decide) rfl fun s1 sL' ns' e1 hs1 hl1 g1=>?_
 refine qs3 (d:=d+4) hs1 hl1 fun s2 w e2 W2 w1 w2 g2=>?_
 have hsc2:s2.heap (.list 0)=some (.list (ns.map V.int)):=((g1.trans g2).eq (.list 0) (by show 0<1;decide) id).trans hσ
 let wd:=decide (1<ns.length)
 let s3:=s2.new .tup (.tup [.ref (.list w),.bool wd])
 let lB:=(lA.set "well" (.ref (.list w))).set "wide" (.bool wd)
 have x1:1≤s1.next:=g1.le
 have st1:evS C (.asgTup ["well","wide"] [.call "_law_well" [.ite (.cmp .ne (.var "script") (.lst [])) (.var "script") (.lst [.int 2433315606800765229047156627445761])],.cmp .gt (.bi .len [.var "script"]) (.int 1)]) lA σ=some (.next,lB,s3):=by
  have v1:evE C lA (.call "_law_well" [.ite (.cmp .ne (.var "script") (.lst [])) (.var "script") (.lst [.int 2433315606800765229047156627445761])]) σ=some (.ref (.list w),s2):=by
   rw [qe2,qai e1 qby];exact e2
  have v2:evE C lA (.cmp .gt (.bi .len [.var "script"]) (.int 1)) s2=some (.bool wd,s2):=by
   simp(decide:=true) [-String.reduceEq,-String.reduceNe,-BEq.rfl,lA,hsc2,wd]<;>lia
  rw [qet,qai v1 (qai v2 qby)];rfl
 have hw0:w≠0:=by lia
 have W3:Well s3 w 0:=W2.keep ((Go.newMore (O:=noO) rfl).eq (.list w) w2 id)
 obtain⟨bl,s4,e4,hbl,W4,g4,n4⟩:=qm6 (σ:=s3) (C:=C) (l:=lB) (c:=3) (m:=3) (r2:=3) (e1:= .bin .add (.int 3) (.call "_law_draw" [.var "well",.int 3])) (e2:= .int 3) (wd:=wd) rfl
  (qkl (d:=d+4) (c:=3) (m:=3) W3 (by decide) (by decide) (by(with_reducible exact Nat.zero_le _)) hw0 rfl rfl rfl) rfl W3
 replace n4:s4.next=s2.next+1:=n4
 have bl8:bl≤8:=Nat.le_trans (up5 hbl (by decide)) (by decide)
 obtain⟨r5,s5,e5,hr5,W5,g5,n5⟩:=qkl (d:=d+4) (σ:=s4) (l:=lB) (c:=2) (m:=3) (e:= .int 3) (ec:= .int 2) W4 (by decide) (by decide) (by decide) hw0 rfl rfl rfl
 let sz:=2+r5
 let fD:=s5.next
 refine ql3 (d:=d+4) (σ:=s5.new (.inst .disk) (.inst [])) (i:=fD) (bl:=bl) (sz:=sz) (qaz s5 (.inst .disk) _) (by lia) (by lia) (Nat.lt_succ_self _) fun s6 e6 d1 d2 d3 d4 n6 g6=>?_
 rw [show(s5.new (.inst .disk) (.inst [])).next=fD+1 from rfl]at d1 d2 d3 d4 n6;have hwf:w<fD:=by show w<s5.next;lia
 have st2:evS C (.asgVar "first" (.new .disk [.ite (.var "wide") (.bin .add (.int 3) (.call "_law_draw" [.var "well",.int 3])) (.int 3),.bin .add (.int 2) (.call "_law_draw" [.var "well",.int 3])])) lB s3=some (.next,lB.set "first" (.ref (.inst .disk fD)),s6):=by
  rw [qfm,qm4 (qai e4 (qai e5 qby)) e6];rfl
 let lC:=lB.set "first" (.ref (.inst .disk fD))
 have W6:Well s6 w 2:=(W5.keep (σ':=s5.new (.inst .disk) (.inst [])) ((Go.newMore (O:=noO) rfl).eq (.list w) hwf id)).keep (g6.eq (.list w) (by show w<fD+1;(with_reducible exact oq7s ‹_›)) (by show ¬w=fD;(with_reducible exact Nat.ne_of_lt ‹_›)))
 obtain⟨r7,s7,e7,hr7,W7,g7,n7⟩:=qm6 (σ:=s6) (C:=C) (l:=lC) (c:=0) (m:=2) (r2:=0) (e1:= .call "_law_draw" [.var "well",.int 2]) (e2:= .int 0) (wd:=wd) rfl
  (by
   obtain⟨r,σ',q1,q2⟩:=qrb (d:=d+4) (l:=lC) (m:=2) (e:= .int 2) W6 (by(with_reducible exact Nat.le_succ _)) (by decide) (by decide) hw0 rfl rfl
   exact⟨r,σ',by rw [Nat.zero_add];exact q1,q2⟩) rfl W6
 let least:=1+r7
 let s8:=s7.new .list (.list [])
 let s9:=s8.new .list (.list [])
 let rL:=s7.next
 let hL:=s7.next+1
 let s10:=s9.new .tup (.tup [.int least,.ref (.list rL),.ref (.list hL)])
 let lD:=((lC.set "least" (.int least)).set "row" (.ref (.list rL))).set "held" (.ref (.list hL))
 have n6':s6.next=fD+4:=n6
 have n7':s7.next=fD+4:=by lia
 have n10:s10.next=fD+7:=by show s7.next+1+1+1=_;lia
 have st3:evS C (.asgTup ["least","row","held"] [.bin .add (.int 1) (.ite (.var "wide") (.call "_law_draw" [.var "well",.int 2]) (.int 0)),.lst [],.lst []]) lC s6=some (.next,lD,s10):=by
  have v1:evE C lC (.bin .add (.int 1) (.ite (.var "wide") (.call "_law_draw" [.var "well",.int 2]) (.int 0))) s6=some (.int least,s7):=by
   rw [qyq,g_int];simp only [bind];rw [e7];show qe8 .add (.int _) (.int _) _=_
   rw [qqs];congr 3
  have v2:evE C lC (.lst []) s7=some (.ref (.list rL),s8):=rfl
  have v3:evE C lC (.lst []) s8=some (.ref (.list hL),s9):=rfl
  rw [qet,qai v1 (qai v2 (qai v3 qby))];rfl
 have g710:Go noO noO s7 s10:=((Go.newMore rfl).trans (Go.newMore rfl)).trans (Go.newMore rfl)
 have k7: ∀x:Loc,x.n<fD+4→x.n≠w→s10.heap x=s6.heap x:=fun x h1 h2=>by rw [g710.eq x (by lia) id,g7.eq x (by lia) h2]
 have hrow10:s10.heap (.list rL)=some (.list []):=((Go.newMore (O:=noO) rfl).trans (Go.newMore rfl)).eq (.list rL) (Nat.lt_succ_self _) id|>.trans (qaz s7 .list _)
 have hheld10:s10.heap (.list hL)=some (.list []):=(Go.newMore (O:=noO) rfl).eq (.list hL) (Nat.lt_succ_self _) id|>.trans (qaz s8 .list _)
 have W10:Well s10 w 3:=W7.keep (g710.eq (.list w) (by show w<s7.next;(with_reducible exact qrd ‹_› ‹_›)) id)
 have F0:FW s10 fD (fD+1) (fD+2) (fD+3) bl sz 0 (fun _=> []):=
  ⟨⟨0,(k7 _ (by show fD<fD+4;(with_reducible exact qyh (by decide))) (by show fD≠w;(with_reducible exact Nat.ne_of_gt ‹_›))).trans d1⟩,(k7 (.dict (fD+1)) (by show fD+1<fD+4;(with_reducible exact qrj (by decide))) (by show fD+1≠w;lia)).trans d2,
   ⟨[],(k7 (.dict (fD+2)) (by show fD+2<fD+4;(with_reducible exact qrj (by decide))) (by show fD+2≠w;lia)).trans d3,by simp,fun n hn=>by lia⟩,
   ⟨[],(k7 (.list (fD+3)) (by show fD+3<fD+4;(with_reducible exact qrj (by decide))) (by show fD+3≠w;lia)).trans d4,rfl,fun i t hi=>by simp at hi⟩,fun n hn=>by lia,by(with_reducible exact qyg ‹_› (by decide)),by(with_reducible exact qfk ‹_› (by decide)),by(with_reducible exact qfk ‹_› (by decide)),by(with_reducible exact qfk ‹_› (by decide)),by lia,by lia⟩
 obtain⟨l11,s11,B,e11,hl11,F11,g11⟩:=qjk (d:=d+3) (fD:=fD) (kd:=fD+1) (lt:=fD+2) (u:=fD+3) (bl:=bl) (sz:=sz) (by lia) (by lia) bl 0 lD s10 _ (by lia) F0 rfl rfl
 have st4:evS C (.forRange "number" (.attr (.var "first") "blocks") [.expr (.meth (.var "first") "write" [.var "number",.bi .bytes [.comp (.bin .add (.bin .mul (.int 16) (.var "number")) (.var "at")) "at" 1 [.attr (.var "first") "size"] none]])]) lD s10=some (.next,l11,s11):=by
  obtain⟨dw,hd⟩:=F0.disk
  rw [qh9 (b:=bl) (σ₁:=s10) (by simp(decide:=true) [-String.reduceEq,-String.reduceNe,-BEq.rfl,lD,lC,hd,qbo]) (by lia),List.range_eq_range'];exact e11
 refine qq8 (d:=d+3) F11 (by lia) fun s12 e12 F12 g12 n12=>?_
 have hfirst11:l11 "first" =some (.ref (.inst .disk fD)):=by rw [hl11 _ (by decide)];rfl
 have st5:evS C (.expr (.meth (.var "first") "flush" [])) l11 s11=some (.next,l11,s12):=by
  obtain⟨dw,hd⟩:=F11.disk
  rw [qo9,qc4 (qa4 hfirst11) hd qby e12];rfl
 let ms:=(List.range (bl+2- least)).map fun i=>least+i
 obtain⟨P,s13,e13,hP,hdis,g13⟩:=qjo (d:=d) (l:=l11) (least:=least) (by lia) (by lia) (by lia) (by lia) (by(with_reducible exact Nat.le_add_right _ _)) hfirst11 ms s12 F12 (fun m hm=>by
  obtain⟨i,hi,rfl⟩:=List.mem_map.mp hm
  exact⟨Nat.le_add_right _ _,Nat.le_trans (Nat.le_of_lt (Nat.add_lt_of_lt_sub' (List.mem_range.mp hi))) (Nat.le_trans (Nat.add_le_add_right bl8 2) (by decide))⟩)
 let sL:=s13.next
 let s14:=s13.new .list (.list (P.map fun s=>sd s.b))
 have g14:Go noO noO s13 s14:=Go.newMore rfl
 have hmost:l11 "least" =some (.int least):=by rw [hl11 _ (by decide)];rfl
 have hdot:l11 ".0" =none:=by rw [hl11 _ (by decide)];rfl
 have hsrc:qbm least (bl+2)=ms.map fun m:Nat=>V.int m:=by
  unfold qbm;rw [List.map_map,show(((bl:Int)+2)- least).toNat=bl+2- least from Int.toNat_sub (bl+2) least];exact List.map_congr_left fun i _=>by simp [Function.comp]
 have st6:evS C (.asgVar "sides" (.comp (.call "_law_side" [.var "first",.var "most"]) "most" 2 [.var "least",.bin .add (.attr (.var "first") "blocks") (.int 2)] none)) l11 s12=some (.next,l11.set "sides" (.ref (.list sL)),s14):=by
  obtain⟨dw,hd⟩:=F12.disk
  have hes:qdc C l11 [.var "least",.bin .add (.attr (.var "first") "blocks") (.int 2)] s12=some ([.int least,.int ((bl:Int)+2)],s12):=
   qai (qa4 hmost) (qai (σ₁:=s12) (by simp(decide:=true) [-String.reduceEq,-String.reduceNe,-BEq.rfl,hfirst11,hd,qbo]) qby)
  have hso:qie 2 [.int least,.int ((bl:Int)+2)] s12=some (ms.map fun m:Nat=>V.int m):=by
   rw [qv1,if_pos (bnd5 bl8 (up5 hr7 (by decide))),hsrc]
  rw [qfm,qm7,hes];show qa6 (qdt (if(l11 ".0").isNone then qie 2 _ s12 else none) _) _=_
  simp only [hdot,Option.isNone_none,if_true,hso];show qa6 (bind (qgd (fun v σ=>qkr true none (evE C (l11.set "most" v) _) σ) _ s12) _) _=_
  rw [e13];rfl
 let a:Lw:=⟨w,rL,hL,fD,sL,least,bl,sz⟩
 have x2:=g2.le
 have x11:=g11.le
 have x13:=g13.le
 have h12:fD+8≤s12.next:=by rw [n12];exact Nat.succ_le_succ (Nat.le_trans (Nat.le_of_eq n10.symm) x11)
 have hsLbig:fD+8≤sL:=Nat.le_trans h12 x13
 have A:a.Ok:= {
  nd:=by
   show [w,s7.next,s7.next+1,fD,sL].Nodup
   rw [n7'];exact nd5 hwf hsLbig
  w0:=hw0
  r0:=by show s7.next≠0;lia
  h0:=by show s7.next+1≠0;lia
  least:=by show 1≤1+r7;(with_reducible exact Nat.le_add_right _ _)
  least2:=by show 1+r7≤8;exact Nat.le_trans (Nat.add_le_add_left (up5 hr7 (by decide)) 1) (by decide)
  bl:=by show 1≤bl;lia
  bl2:=bl8
  sz:=by show 1≤2+r5;lia
  sz2:=by show 2+r5≤8;lia}
 have keep: ∀x:Loc,x.n<s10.next→ ¬fs fD (fD+1) (fD+2) (fD+3) x.n→s14.heap x=s10.heap x:=fun x h1 h2=>by
  have y1:x.n<s11.next:=Nat.lt_of_lt_of_le h1 g11.le
  have y2:x.n<s12.next:=Nat.lt_of_lt_of_le y1 g12.le
  rw [g14.eq x (Nat.lt_of_lt_of_le y2 g13.le) id,g13.eq x y2 id,g12.eq x y1 h2,g11.eq x h1 h2]
 have nfs: ∀k,(k<fD∨fD+4≤k)→ ¬fs fD (fD+1) (fD+2) (fD+3) k:=fun k hk q=>by
  exact nofs hk q
 have I:TI a 3 bl [] [] P s14:= {
  W:=W10.keep (keep (.list w) (by show w<s10.next;(with_reducible exact qrd ‹_› ‹_›)) (nfs w (.inl hwf)))
  D:=by
   obtain⟨dw,hd⟩:=F12.disk
   exact⟨_,(g14.eq (.inst .disk fD) (Nat.lt_of_lt_of_le F12.lt1 g13.le) id).trans ((g13.eq (.inst .disk fD) F12.lt1 id).trans hd)⟩
  row:=(keep (.list rL) (by show s7.next<s10.next;rw [n10,n7'];exact qrj (by decide)) (nfs _ (.inr (by show fD+4≤s7.next;(with_reducible exact oq1e ‹_› (by decide)))))).trans hrow10
  held:=(keep (.list hL) (by show s7.next+1<s10.next;rw [n10,n7'];exact qrj (j:=5) (by decide)) (nfs _ (.inr (by show fD+4≤s7.next+1;rw [n7'];exact Nat.le_succ _)))).trans hheld10
  sides:=qaz s13 .list _
  pool:=⟨fun s hs=>(Sat.framed _ _ _ _ _ _) s13 s14 s (hP s hs).1 (fun x hx=>g14.eq x ((hP s hs).2 _ hx).2 id) g14.le,fun s hs k hk=>by
   have:=(hP s hs).2 k hk
   refine⟨Nat.lt_succ_of_lt this.2,fun q=>?_⟩
   have q:k=w∨k=s7.next∨k=s7.next+1∨k=fD∨k=s13.next:=q
   rw [n7']at q;exact no5 hwf (Nat.le_trans h12 this.1) this.2 q,hdis⟩
  lt:=fun k q=>by
   have q:k=w∨k=s7.next∨k=s7.next+1∨k=fD∨k=s13.next:=q
   rw [n7']at q;exact in5 hwf hsLbig q
  hnd:= .nil
  hlen:=by simp
  hb:=fun x hx=>by simp at hx
  ql:=by simp}
 have kL:Lk a (l11.set "sides" (.ref (.list sL))):=by
  have hx: ∀x,x≠ "number" →x≠ "sides" →(l11.set "sides" (.ref (.list sL))) x=lD x:=fun x h1 h2=>(qe5 _ h2).trans (hl11 x h1)
  exact⟨hx _ (by decide) (by decide),hx _ (by decide) (by decide),hx _ (by decide) (by decide),hx _ (by decide) (by decide),hx _ (by decide) (by decide),by simp [Locs.set,a],hx _ (by decide) (by decide)⟩
 have hwide:(l11.set "sides" (.ref (.list sL))) "wide" =some (.bool wd):=by
  rw [qe5 _ (by decide),hl11 _ (by decide)];rfl
 refine qwa (d:=d) A I (by lia) kL hwide fun lz sz' ez=>?_
 refine out ⟨sz',?_⟩
 rw [rD_law];show qez (qbk C (_::_::_:: .forRange "number" (.attr (.var "first") "blocks") _::_::_::D_law.body.drop 6) lA σ)=_
 rw [qap st1,qap st2,qap st3,qap st4,qap st5,qap st6];rw [show qbk C (D_law.body.drop 6) _ _=_ from ez];rfl
end
end Mine.B
end
noncomputable section
end
theorem PySem.Challenge.cw_up0077_01_holds : PySem.Challenge.rw_up0077_01.Holds :=
 Mine.join fun ns _=>(Mine.B.law_run (d:=0) ns).elim fun σ' h=>⟨6,σ',by decide,h⟩
