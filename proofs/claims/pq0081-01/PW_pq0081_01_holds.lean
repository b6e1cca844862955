import PyProof.Rows.All
import Wide.All
import OpenK.AllK
import Wide.FinOn
import KE.KDictSum
import KE.KSortTup
import Lean
import PySem.Challenge.RW_pq0081_01
set_option tactic.hygienic false
set_option compiler.extract_closed false
open PySem PySem.W PyProof.Rows PySem.Calls
set_option Elab.async false
set_option maxRecDepth 100000
set_option maxHeartbeats 4000000
set_option linter.unusedVariables false
set_option genSizeOf false
namespace Internal
abbrev ag:=@wpAny_bind
abbrev ah:=@List.length_map
abbrev ai:=@wpAny_pure
abbrev al:=@List.getElem?_eq_getElem
abbrev am:=@wpAny_mono
abbrev an:=@Nat.le_refl
abbrev ap:=@List.mem_of_getElem?
abbrev au:=@Nat.lt_of_lt_of_le
abbrev aw:=@if_neg
abbrev ax:=@List.map_append
abbrev ay:=@Heap.get?_push_of_some
abbrev az:=@Nat.le_of_lt
abbrev aA:=@List.getD_eq_getElem?_getD
abbrev aB:=@if_pos
abbrev aC:=@List.length_append
abbrev aD:=@List.getElem?_map
abbrev aE:=@Array.length_toList
abbrev aF:=@Nat.ne_of_lt
abbrev aG:=@Nat.le_of_eq
abbrev aH:=@List.map_cons
abbrev aJ:=@Heap.get?_push_size
abbrev aK:=@List.take_add_one
abbrev aL:=@List.length_range
abbrev aM:=@Nat.lt_of_le_of_lt
abbrev aO:=@Heap.lt_size
abbrev aP:=@wpAny_holding
abbrev aQ:=@Nat.le_succ_of_le
abbrev aR:=@Nat.le_of_lt_succ
abbrev aS:=@Nat.le_add_right
abbrev aT:=@Nat.add_le_add_left
abbrev aV:=@List.take_length
abbrev aX:=@Nat.lt_of_le_of_ne
abbrev aY:=@Nat.le_add_left
abbrev aZ:=@List.mem_singleton
abbrev bb:=@Exists.elim
abbrev be:=@List.length_take
abbrev bf:=@Nat.lt_succ_of_lt
abbrev bg:=@Nat.min_le_right
abbrev bj:=@Nat.lt_irrefl
abbrev bl:=@Bool.and_eq_true
abbrev bm:=@wpAny_ite_false
abbrev bo:=@Eq.symm
abbrev bp:=@Array.getElem?_eq_getElem
abbrev bq:=@wpAny_call_entry
abbrev br:=@Nat.succ_le_succ
abbrev bu:=@Nat.ne_of_gt
abbrev bv:=@List.map_map
abbrev bw:=@Nat.lt_succ_self
abbrev bx:=@List.length_cons
abbrev bA:=@Nat.le_succ
abbrev bB:=@Nat.add_right_comm
abbrev bC:=@List.getElem?_range
abbrev bD:=@List.mem_cons
abbrev bF:=@List.length_filter_le
abbrev bG:=@List.getElem?_append_left
abbrev bH:=@List.getElem_of_mem
abbrev bK:=@decide_eq_false
abbrev bL:=@List.nodup_cons
abbrev bM:=@List.lookup_cons
abbrev bN:=@Nat.lt_or_ge
abbrev bO:=@List.size_toArray
abbrev bP:=@Nat.lt_of_lt_of_eq
abbrev bQ:=@Bool.false_eq_true
abbrev bR:=@Nat.zero_le
abbrev bS:=@List.length_singleton
abbrev bT:=@List.getElem?_eq_none
abbrev bU:=@Nat.lt_trans
abbrev bV:=@Nat.le_antisymm
abbrev bW:=@Bool.eq_iff_iff
abbrev bY:=@Nat.add_le_add
abbrev ch:=@List.getElem?_set_ne
abbrev ci:=@Classical.byContradiction
abbrev cj:=@of_decide_eq_false
abbrev cp:=@Ne.symm
abbrev cq:=@Nat.mul_le_mul_left
abbrev cu:=@wpAny_setState_of
abbrev cv:=@of_decide_eq_true
abbrev cw:=@congrArg
abbrev cx:=@decide_eq_true
abbrev cy:=@List.mem_append_left
abbrev cz:=@List.getElem?_append_right
abbrev cE:=@wpAny_ite_split
abbrev cG:=@Nat.not_lt_zero
abbrev cH:=@Nat.not_lt_of_le
abbrev cI:=@Array.getD_eq_getD_getElem?
abbrev cJ:=@wpAny_standAt
abbrev cK:=@Nat.lt_of_succ_lt
abbrev cM:=@List.append_nil
theorem nB {a b:Nat}(h:Nat.ble a b=true):a ≤ b:=Nat.le_of_ble_eq_true h
theorem nT {n m k:Nat}:n ≤ m->m ≤ k->n ≤ k:=Nat.le_trans
theorem nn1 {m i j:Nat}(h:i < j)(hj:j < m):m - 1 - j < m - 1 - i:=Nat.sub_lt_sub_left (au h (Nat.le_sub_one_of_lt hj)) h
theorem nn2 {k l:Nat}(h:l<=k):k - (k - l)=l:=Nat.sub_sub_self h
theorem nn3 {k l i j:Nat}(h:i < j)(h2:l < i/\i<=k):i - 1 < j - 1:=Nat.sub_lt_sub_right (aM (bR l) h2.1) h
theorem nn4 {k l i j:Nat}(h:i < j)(h3:¬ i=l)(h4:¬ (l < i/\i<=k))(h5:l < j/\j<=k):i < j - 1 :=
 au (aX (Nat.le_of_not_lt λ q=>h4 ⟨q,nT (az h) h5.2⟩) h3) (Nat.le_sub_one_of_lt h5.1)
theorem nn5 {k l j:Nat}(h:l < j/\j<=k):j - 1 < k:=au (Nat.sub_lt (aM (bR l) h.1) (by decide)) h.2
theorem nn6 {k l j:Nat}(h:l<=k)(hj:j < k+1)(h3:¬ j=l)(h4:¬ (l < j/\j<=k)):j < k :=
 au (aX (Nat.le_of_not_lt λ q=>h4 ⟨q,aR hj⟩) h3) h
theorem nn7 {l i j:Nat}(h:i < j)(e:i=l):l<=j - 1:=e▸Nat.le_sub_one_of_lt h
theorem nn8 {m i:Nat}(h:1+1<=m):m - 1 - i < m:=aM (Nat.sub_le _ _) (Nat.sub_lt (au (by decide) h) (by decide))
theorem nn9 {f l r mid:Nat}(h:r - l<=f+1)(hl:l<=mid)(hr:mid < r):mid - l<=f:=aR (au (Nat.sub_lt_sub_right hl hr) h)
theorem nnA {f l r mid:Nat}(h:r - l<=f+1)(hl:l<=mid)(hr:mid < r):r - (mid+1)<=f:=aR (au (Nat.sub_succ_lt_self _ _ hr) (nT (Nat.sub_le_sub_left hl r) h))
theorem nnB {a e k:Nat}(h:a<=e)(hk:k < e+1 - a):k<=e - a:=aR (Nat.succ_sub h▸hk)
theorem nnC {a e k m:Nat}(h:a<=e)(hm:e<=m)(hk:k < e+1 - a):a+k<=m:=nT (nT (aT (nnB h hk) a) (aG (Nat.add_sub_cancel' h))) hm
theorem nnD {K k f:Nat}(h:K - k < f+1)(hk:k < K):K - (k+1) < f:=au (Nat.sub_succ_lt_self _ _ hk) (aR h)
theorem nnE {i n:Nat}(h:i < n - 1):i+1 < n:=Nat.add_lt_of_lt_sub h
theorem nnF {K k k1 f:Nat}(h:K - k < f+1)(h1:k<=k1)(h2:k1+1<=K):K - (k1+1) < f:=au (Nat.sub_succ_lt_self _ _ h2) (nT (Nat.sub_le_sub_left h1 K) (aR h))
theorem nnG {K k n:Nat}(h:K < n):K - k < n:=aM (Nat.sub_le _ _) h
theorem nnI {i j:Nat}(h:i < j):1<=j:=aM (bR i) h
theorem nqA {n j:Nat}(h:¬ n<=j):n - j=n - (j+1)+1:=(Nat.succ_pred_eq_of_pos (Nat.sub_pos_of_lt (Nat.lt_of_not_le h))).symm
theorem nqB {n j:Nat}(h:n<=j):n - (j+1)=0:=Nat.sub_eq_zero_of_le (aQ h)
theorem nqC {k j n:Nat}(h:k < j+1+n):k < j+(n+1):=bB j 1 n▸h
theorem nqF {i:Nat}(h:i<=16777216):(i:Int) < 2 ^ 63:=Int.lt_of_le_of_lt (Int.ofNat_le.mpr h) (by decide)
theorem nqK {l k:Nat}(h:k<=l):l=l - k+k:=(Nat.sub_add_cancel h).symm
theorem nqL {j n k:Nat}(h:n<=k):min j n<=k:=nT (bg _ _) h
theorem nqM {c p k i n:Nat}(h:c+p<=k+i)(hi:i < n)(hn:n<=2)(hk:k<=3000:=by decide):c<=50000:=nT (nT (aS _ _) h) (nT (bY hk (nT (az hi) hn)) (by decide))
theorem nqN {k i n:Nat}(hi:i < n)(hn:n<=2)(hk:k<=3000:=by decide):k+i < 4000:=aM (bY hk (nT (az hi) hn)) (by decide)
theorem nqO {n:Nat}(h:n<=1000000):-1000000<=(n:Int)/\(n:Int)<=1000000:=⟨Int.le_trans (by decide) (Int.natCast_nonneg _),Int.ofNat_le.mpr h⟩
theorem nqP {n a b:Nat}(h:n < a)(hk:20+1+2 * a<=b:=by decide):20+1+2 * n<=b:=nT (aT (cq 2 (az h)) _) hk
theorem nqQ {w l n m:Nat}(h:l<=100)(hn:m+1=n):w+l+110 * m+10<=w+110 * n:=by
 subst hn;rw [Nat.add_assoc,Nat.add_assoc];exact aT (nT (bY h (an _)) (aG (by rw [Nat.mul_add,Nat.add_comm 100,Nat.add_assoc]))) w
theorem nqS {hi lo f m:Nat}(h:hi<=lo+(f+1))(hm:m < hi):m<=lo+f:=aR (au hm h)
theorem nqT {lo hi:Nat}(h:lo<=hi)(h':¬ lo < hi):lo=hi:=bV h (Nat.le_of_not_lt h')
theorem nqU {n m u:Nat}(e:n=u)(e':m+1=n):m=u - 1:=by subst e';subst e;rfl
theorem nqV {n:Nat}{p:Prop}(h:n<=10/\p):1+n<=16000000:=nT (aT h.1 1) (by decide)
theorem nqW {r e a m:Nat}(h1:r<=e - a)(h2:e<=m)(h3:a<=e):a+r<=m:=nT (nT (aT h1 a) (aG (Nat.add_sub_cancel' h3))) h2
theorem nra {b i:Nat}(h:b<=1+3 * i)(hi:i < 5):b+1<=1000:=nT (br (nT h (aT (cq 3 (az hi)) 1))) (by decide)
theorem nrb {b i:Nat}(h:b<=1+3 * i):b+1+1+1<=1+3 * (i+1):=Nat.add_le_add_right h 3
theorem nrc {b i:Nat}(h:b<=1+3 * i):b+1+1<=1+3 * (i+1):=nT (Nat.add_le_add_right h 2) (bA _)
theorem nrd {n i:Nat}(e:n=2+i)(hi:i < 5):n<=16000000:=e▸nT (aT (az hi) 2) (by decide)
theorem nre {n i y:Nat}(e:n=2+i)(hi:i < 5)(h:y < n):y<=1000000:=nT (az h) (e▸nT (aT (az hi) 2) (by decide))
theorem nrf {n i v:Nat}(e:n=2+i)(h:v < 2):v < n:=e▸au h (aS 2 i)
theorem nrg {n r:Nat}(h:r < 4)(e:n=2+(2+r)):n<=7:=e▸aT (aT (aR h) 2) 2
theorem nrh {r b:Nat}(h:r < 4)(h2:b<=1+3 * (2+r)):b<=20:=nT h2 (nT (aT (cq 3 (aT (aR h) 2)) 1) (by decide))
theorem nri {n i:Nat}(h:n<=1000):2 * min i n<=2000:=cq 2 (nqL h)
theorem nrj {f j:Nat}(h:f<=2000):f+min j 2<=16000000:=nT (bY h (bg _ _)) (by decide)
theorem nrk {b i:Nat}(h:b<=900)(hi:i < 10):b+2 * i<=1000:=nT (bY h (cq 2 (aR hi))) (by decide)
theorem nrl {A B f g x y:Nat}(h:A+f=B+g)(e:x=y):A+x+f=B+y+g:=by rw [bB,h,e,bB]
theorem nrm {A n m f:Nat}(h:A<=n * m)(h':f<=m):A+f<=n * m+1 * m:=bY h (nT h' (aG (Nat.one_mul m).symm))
theorem nrn {n:Nat}(h:n<=10):n+110 * n<=1500:=nT (bY h (cq 110 h)) (by decide)
theorem nro {u n l c:Nat}(hn:n<=16)(h:u+16 * (l+1) < c):u+n < c:=aM (aT (nT hn (aY 16 (16 * l))) u) h
theorem nrp {u n c:Nat}(h:u+(n+1) < c):u+1+n < c:=bB u 1 n▸h
theorem nrq {u n c:Nat}(h:u+n < c):u < c:=aM (aS _ _) h
theorem nrr {u k l a c:Nat}(ha:a<=k)(h:u+k * (l+1) < c):u+a+k * l < c:=aM (by rw [Nat.add_assoc,Nat.add_comm a];exact aT (aT ha _) u) h
theorem nrt {a p i:Nat}(h:a<=p/\p < a+i):a<=p/\p < a+(i+1):=⟨h.1,bf h.2⟩
theorem nry {n k:Nat}(h:n<=100)(hk:101 < k:=by decide):n+1 < k:=aM (br h) hk
theorem nrz {i n:Nat}(h:i ≥ n)(h2:i - n=0):i=n:=bV (Nat.le_of_sub_eq_zero h2) h
theorem nse {a b:Nat}:¬ ((a:Int)=b) ↔ ¬ a=b:=not_congr Int.ofNat_inj
theorem nsf {b n c p:Nat}(h:b+(n+1)<=4000)(h2:c+p<=b):c<=49000:=nT (nT (aS _ _) h2) (nT (nT (aS _ _) h) (by decide))
theorem nsh {n:Nat}(h:n<=900):3000+(n+2)<=4000:=nT (aT (Nat.add_le_add_right h 2) 3000) (by decide)
theorem nsi {i n s:Nat}(h:i+(n+1)<=s):i+1+n<=s:=bB i 1 n▸h
theorem nsj {e n a:Nat}(h:e<=n)(h2:a<=e+1):a<=n+1:=nT h2 (br h)
theorem nsk {b n:Nat}(h:n < 4):b+1+2 * n+2 * 2<=b+20:=by rw [Nat.add_assoc,Nat.add_assoc];exact aT (nT (aT (Nat.add_le_add_right (cq 2 (az h)) 4) 1) (by decide)) b
theorem nsl {n p q k:Nat}(h:n < 4)(e:p=n)(e':q=2)(hk:6<=k:=by decide):q+p<=k:=e▸e'▸nT (aT (az h) 2) hk
theorem nsm {n p t:Nat}(h:n < 4)(e:p=n)(ht:t<=10):t+p<=900:=e▸nT (bY ht (az h)) (by decide)
theorem nsn {n b:Nat}(h:n < 4)(hb:b<=500):b+1+2 * n<=900:=nT (bY (br hb) (cq 2 (az h))) (by decide)
theorem nso {n p k:Nat}(h:n < 4)(e:p=n)(hk:4<=k:=by decide):p<=k:=e▸nT (az h) hk
theorem nsq {a b c d k:Nat}(h:a<=c)(h2:b<=d)(hk:c+d<=k:=by decide):a+b<=k:=nT (bY h h2) hk
theorem nsr {k n m:Nat}(e:n=m)(h:k < m):k < n:=e▸h
theorem nss {k n m:Nat}(e:n=m+1)(h:k < m):k < n:=e▸bf h
theorem nst {c n:Nat}(h:¬ c=n)(h':¬ c < n):¬ c < n+1:=λ q=>h' (aX (aR q) h)
theorem nsu {n m k:Nat}(h:n<=10)(e:m=n+1)(hk:11<=k:=by decide):m<=k:=e▸nT (br h) hk
theorem nsv {a b:Nat}(e:a+1=b):a < b:=e▸bw a
theorem nsx {T i n:Nat}(h:T<=i)(h2:i < n)(h3:n<=17):T<=17:=nT h (nT (az h2) h3)
theorem nsy {n b:Nat}(h:b < n):¬ b=n+1:=λ e=>by rw [e]at h;exact bj n (bU (bw n) h)
theorem nsz {a n k:Nat}(e:a=n)(h:n<=k):a<=k:=e▸h
theorem nta {e k:Nat}(h2:k=e+1)(h3:¬ 7 * 3<=(e+1) * 5):k<=4:=h2▸Nat.le_of_not_lt λ q=>h3 (nT (by decide) (Nat.mul_le_mul_right 5 q))
theorem ntb {a n m:Nat}(h:a+(n+1)<=m+1):a<=m:=nT (aS a n) (Nat.le_of_succ_le_succ h)
theorem ntd {s m j:Nat}(e:s=m+1)(h:j<=m):j < s:=e▸Nat.lt_succ_of_le h
theorem nte {T r d:Nat}(h:T+r < T+d+1):r<=d:=Nat.le_of_add_le_add_left (aR h)
theorem ntf {T r a e:Nat}(h:a<=e)(h2:T+r < T+(e - a)+1):r < e+1 - a:=Nat.succ_sub h▸Nat.lt_succ_of_le (nte h2)
theorem ntg {T r a e m:Nat}(h:a<=e)(h1:e<=m)(h2:T+r < T+(e - a)+1):a+r<=m:=nqW (nte h2) h1 h
theorem mmlt {a b k g:Nat}(h1:min a b=k)(h2:max a b=g)(h:k≠g):k < g:=by
 subst h1 h2
 exact aX (nT (Nat.min_le_left _ _) (Nat.le_max_left _ _)) h
theorem mxe (a b:Nat):(if a=max a b then min a b else a)=if b=max a b then min a b else b:=by
 rcases Nat.le_total a b with h | h
 ·rw [Nat.max_eq_right h,Nat.min_eq_left h,aB rfl,ite_self]
 ·rw [Nat.max_eq_left h,Nat.min_eq_right h,aB rfl,ite_self]
theorem arP {x p q b:Nat}(h:x+p<=b)(hp:q+1=p):1<=b:=by subst hp;exact nT (aY 1 (x+q)) h
theorem nua {m f n:Nat}(e:m+(f+1)=n):m - 1 < n:=e▸aM (Nat.sub_le _ _) (Nat.lt_add_of_pos_right (Nat.succ_pos f))
theorem nub {m f n:Nat}(e:m+(f+1)=n):m < n:=e▸Nat.lt_add_of_pos_right (Nat.succ_pos f)
theorem nuc {i j:Nat}(h:i < j)(h':¬ i=j - 1):i < j - 1:=aX (Nat.le_sub_one_of_lt h) h'
theorem nue {k i j:Nat}(h:i < j)(hj:j < k+1):j - 1 < k:=au (Nat.sub_lt (aM (bR i) h) (by decide)) (aR hj)
theorem nuf {n:Nat}(h:2<=n):1+(n - 1)=n:=Nat.add_sub_cancel' (Nat.le_of_succ_le h)
theorem nug {l r:Nat}(h:l<=r)(h2:r - l<=0):l=r:=bV h (Nat.le_of_sub_eq_zero (Nat.le_zero.mp h2))
theorem nuh {n k r mid i:Nat}(h1:k < n)(h2:r<=k)(h3:mid < r)(h4:i < mid+1):i < n:=aM (nT (aR h4) (nT (az h3) h2)) h1
theorem nui {n m:Nat}(h:1<=m)(h2:m<=n):m - 1 < n:=au (Nat.sub_lt h (by decide)) h2
theorem nuj {s n k f:Nat}(e:k+(f+1)=n)(e2:s=n):k < s:=e2▸e▸Nat.lt_add_of_pos_right (Nat.succ_pos f)
theorem nuk {f m n:Nat}(e:m+(f+1)=n):m+1+f=n:=bB m 1 f▸e
theorem nul {lo hi:Nat}(h:lo < hi):(lo+hi) / 2 < hi:=Nat.div_lt_of_lt_mul (by rw [Nat.two_mul];exact Nat.add_lt_add_right h hi)
theorem num {lo hi:Nat}(h:lo<=hi):lo<=(lo+hi) / 2:=(Nat.le_div_iff_mul_le (by decide)).mpr (by rw [Nat.mul_two];exact aT h lo)
theorem nun {c w p b:Nat}(h:c+(w+p)<=b)(h2:b<=4000):w<=5000:=nT (nT (aS w p) (nT (aY _ c) h)) (nT h2 (by decide))
theorem nuo {u r m n:Nat}(e:u=r)(h:m+r=n)(h2:n<=10):u<=1000:=e▸nT (nT (aY r m) (aG h)) (nT h2 (by decide))
theorem nus {K t:Nat}(h:K < 10 * t)(h2:t<=50):K - 0 < 100000:=au h (nT (cq 10 h2) (by decide))
theorem nut {n m q i:Nat}(e:n=m)(h:q<=n)(h2:i < q):i < m:=e▸au h2 h
theorem nux {c n m k:Nat}(h:n<=10)(h2:c < m)(e:m=n)(hk:10<=k:=by decide):c<=k:=nT (az (e▸h2)) (nT h hk)
theorem nuy {c n k:Nat}(h:n<=10)(h2:c < n)(hk:10 < k:=by decide):c < k:=bU (au h2 h) hk
theorem nvc {b e s:Nat}(h:e < s)(h2:b<=e):b<=s+1:=aQ (nT h2 (az h))
theorem nvd {n t p k:Nat}(ht:t<=10)(h:n < 4)(e:p=n)(hk:14<=k:=by decide):t+p<=k:=e▸nT (bY ht (az h)) hk
theorem nve {b i k:Nat}(h:b<=1+3 * i)(hi:i < 5)(hk:16<=k:=by decide):b<=k:=nT h (nT (aT (cq 3 (az hi)) 1) hk)
theorem nvg {n a b:Nat}(h:a<=n * n)(h2:b<=n):a+b<=(n+1) * (n+1):=by
 rw [Nat.add_mul,Nat.mul_add,Nat.add_assoc];exact bY h (nT h2 (nT (aG (Nat.mul_one n).symm) (aS _ _)))
theorem nvj {b a:Nat}(h:b<=a):(a:Int) - b=((a - b:Nat):Int):=(Int.ofNat_sub h).symm
theorem nvl {n k p:Nat}(e2:p=n)(h:k < p):k < n:=e2▸h
theorem nvm {n:Nat}(h:10<=n)(h2:n<=13):n=2∨(7<=n/\n<=13):=.inr ⟨nT (by decide) h,h2⟩
theorem nvn {n p:Nat}{q:Prop}(h:2<=n)(h2:p=n/\q):0 < p:=h2.1▸au (by decide) h
theorem E02 {p q:Prop}{G:Prop}(h:p/\q)(k:p->q->G):G:=And.elim k h
theorem E03 {p q r:Prop}{G:Prop}(h:p/\q/\r)(k:p->q->r->G):G:=h.elim λ p h=>E02 h (k p)
theorem E04 {p q r s:Prop}{G:Prop}(h:p/\q/\r/\s)(k:p->q->r->s->G):G:=h.elim λ p h=>E03 h (k p)
theorem E05 {p q r s t:Prop}{G:Prop}(h:p/\q/\r/\s/\t)(k:p->q->r->s->t->G):G:=h.elim λ p h=>E04 h (k p)
theorem E06 {p q r s t v:Prop}{G:Prop}(h:p/\q/\r/\s/\t/\v)(k:p->q->r->s->t->v->G):G:=h.elim λ p h=>E05 h (k p)
theorem E07 {p q r s t v w:Prop}{G:Prop}(h:p/\q/\r/\s/\t/\v/\w)(k:p->q->r->s->t->v->w->G):G:=h.elim λ p h=>E06 h (k p)
theorem E08 {p q r s t v w o:Prop}{G:Prop}(h:p/\q/\r/\s/\t/\v/\w/\o)(k:p->q->r->s->t->v->w->o->G):G:=h.elim λ p h=>E07 h (k p)
theorem E11 {p:α->Prop}{G:Prop}(h:∃ x,p x)(k:∀ x,p x->G):G:=bb h k
theorem E12 {p q:α->Prop}{G:Prop}(h:∃ x,p x/\q x)(k:∀ x,p x->q x->G):G:=bb h λ a h=>E02 h (k a)
theorem E13 {p q r:α->Prop}{G:Prop}(h:∃ x,p x/\q x/\r x)(k:∀ x,p x->q x->r x->G):G:=bb h λ a h=>E03 h (k a)
theorem E14 {p q r s:α->Prop}{G:Prop}(h:∃ x,p x/\q x/\r x/\s x)(k:∀ x,p x->q x->r x->s x->G):G:=bb h λ a h=>E04 h (k a)
theorem E15 {p q r s t:α->Prop}{G:Prop}(h:∃ x,p x/\q x/\r x/\s x/\t x)(k:∀ x,p x->q x->r x->s x->t x->G):G:=bb h λ a h=>E05 h (k a)
theorem E16 {p q r s t v:α->Prop}{G:Prop}(h:∃ x,p x/\q x/\r x/\s x/\t x/\v x)(k:∀ x,p x->q x->r x->s x->t x->v x->G):G:=bb h λ a h=>E06 h (k a)
theorem E17 {p q r s t v w:α->Prop}{G:Prop}(h:∃ x,p x/\q x/\r x/\s x/\t x/\v x/\w x)(k:∀ x,p x->q x->r x->s x->t x->v x->w x->G):G:=bb h λ a h=>E07 h (k a)
theorem E18 {p q r s t v w o:α->Prop}{G:Prop}(h:∃ x,p x/\q x/\r x/\s x/\t x/\v x/\w x/\o x)(k:∀ x,p x->q x->r x->s x->t x->v x->w x->o x->G):G:=bb h λ a h=>E08 h (k a)
theorem E21 {p:α->β->Prop}{G:Prop}(h:∃ x y,p x y)(k:∀ x y,p x y->G):G:=bb h λ a h=>E11 h (k a)
theorem E22 {p q:α->β->Prop}{G:Prop}(h:∃ x y,p x y/\q x y)(k:∀ x y,p x y->q x y->G):G:=bb h λ a h=>E12 h (k a)
theorem E23 {p q r:α->β->Prop}{G:Prop}(h:∃ x y,p x y/\q x y/\r x y)(k:∀ x y,p x y->q x y->r x y->G):G:=bb h λ a h=>E13 h (k a)
theorem E24 {p q r s:α->β->Prop}{G:Prop}(h:∃ x y,p x y/\q x y/\r x y/\s x y)(k:∀ x y,p x y->q x y->r x y->s x y->G):G:=bb h λ a h=>E14 h (k a)
theorem E25 {p q r s t:α->β->Prop}{G:Prop}(h:∃ x y,p x y/\q x y/\r x y/\s x y/\t x y)(k:∀ x y,p x y->q x y->r x y->s x y->t x y->G):G:=bb h λ a h=>E15 h (k a)
theorem E26 {p q r s t v:α->β->Prop}{G:Prop}(h:∃ x y,p x y/\q x y/\r x y/\s x y/\t x y/\v x y)(k:∀ x y,p x y->q x y->r x y->s x y->t x y->v x y->G):G:=bb h λ a h=>E16 h (k a)
theorem E27 {p q r s t v w:α->β->Prop}{G:Prop}(h:∃ x y,p x y/\q x y/\r x y/\s x y/\t x y/\v x y/\w x y)(k:∀ x y,p x y->q x y->r x y->s x y->t x y->v x y->w x y->G):G:=bb h λ a h=>E17 h (k a)
theorem E28 {p q r s t v w o:α->β->Prop}{G:Prop}(h:∃ x y,p x y/\q x y/\r x y/\s x y/\t x y/\v x y/\w x y/\o x y)(k:∀ x y,p x y->q x y->r x y->s x y->t x y->v x y->w x y->o x y->G):G:=bb h λ a h=>E18 h (k a)
theorem E31 {p:α->β->γ->Prop}{G:Prop}(h:∃ x y z,p x y z)(k:∀ x y z,p x y z->G):G:=bb h λ a h=>E21 h (k a)
theorem E32 {p q:α->β->γ->Prop}{G:Prop}(h:∃ x y z,p x y z/\q x y z)(k:∀ x y z,p x y z->q x y z->G):G:=bb h λ a h=>E22 h (k a)
theorem E33 {p q r:α->β->γ->Prop}{G:Prop}(h:∃ x y z,p x y z/\q x y z/\r x y z)(k:∀ x y z,p x y z->q x y z->r x y z->G):G:=bb h λ a h=>E23 h (k a)
theorem E34 {p q r s:α->β->γ->Prop}{G:Prop}(h:∃ x y z,p x y z/\q x y z/\r x y z/\s x y z)(k:∀ x y z,p x y z->q x y z->r x y z->s x y z->G):G:=bb h λ a h=>E24 h (k a)
theorem E35 {p q r s t:α->β->γ->Prop}{G:Prop}(h:∃ x y z,p x y z/\q x y z/\r x y z/\s x y z/\t x y z)(k:∀ x y z,p x y z->q x y z->r x y z->s x y z->t x y z->G):G:=bb h λ a h=>E25 h (k a)
theorem E36 {p q r s t v:α->β->γ->Prop}{G:Prop}(h:∃ x y z,p x y z/\q x y z/\r x y z/\s x y z/\t x y z/\v x y z)(k:∀ x y z,p x y z->q x y z->r x y z->s x y z->t x y z->v x y z->G):G:=bb h λ a h=>E26 h (k a)
theorem E37 {p q r s t v w:α->β->γ->Prop}{G:Prop}(h:∃ x y z,p x y z/\q x y z/\r x y z/\s x y z/\t x y z/\v x y z/\w x y z)(k:∀ x y z,p x y z->q x y z->r x y z->s x y z->t x y z->v x y z->w x y z->G):G:=bb h λ a h=>E27 h (k a)
theorem E38 {p q r s t v w o:α->β->γ->Prop}{G:Prop}(h:∃ x y z,p x y z/\q x y z/\r x y z/\s x y z/\t x y z/\v x y z/\w x y z/\o x y z)(k:∀ x y z,p x y z->q x y z->r x y z->s x y z->t x y z->v x y z->w x y z->o x y z->G):G:=bb h λ a h=>E28 h (k a)
theorem E41 {p:α->β->γ->δ->Prop}{G:Prop}(h:∃ x y z a,p x y z a)(k:∀ x y z a,p x y z a->G):G:=bb h λ a h=>E31 h (k a)
theorem E42 {p q:α->β->γ->δ->Prop}{G:Prop}(h:∃ x y z a,p x y z a/\q x y z a)(k:∀ x y z a,p x y z a->q x y z a->G):G:=bb h λ a h=>E32 h (k a)
theorem E43 {p q r:α->β->γ->δ->Prop}{G:Prop}(h:∃ x y z a,p x y z a/\q x y z a/\r x y z a)(k:∀ x y z a,p x y z a->q x y z a->r x y z a->G):G:=bb h λ a h=>E33 h (k a)
theorem E45 {p q r s t:α->β->γ->δ->Prop}{G:Prop}(h:∃ x y z a,p x y z a/\q x y z a/\r x y z a/\s x y z a/\t x y z a)(k:∀ x y z a,p x y z a->q x y z a->r x y z a->s x y z a->t x y z a->G):G:=bb h λ a h=>E35 h (k a)
theorem E46 {p q r s t v:α->β->γ->δ->Prop}{G:Prop}(h:∃ x y z a,p x y z a/\q x y z a/\r x y z a/\s x y z a/\t x y z a/\v x y z a)(k:∀ x y z a,p x y z a->q x y z a->r x y z a->s x y z a->t x y z a->v x y z a->G):G:=bb h λ a h=>E36 h (k a)
theorem E47 {p q r s t v w:α->β->γ->δ->Prop}{G:Prop}(h:∃ x y z a,p x y z a/\q x y z a/\r x y z a/\s x y z a/\t x y z a/\v x y z a/\w x y z a)(k:∀ x y z a,p x y z a->q x y z a->r x y z a->s x y z a->t x y z a->v x y z a->w x y z a->G):G:=bb h λ a h=>E37 h (k a)
theorem E52 {p q:α->β->γ->δ->ε->Prop}{G:Prop}(h:∃ x y z a b,p x y z a b/\q x y z a b)(k:∀ x y z a b,p x y z a b->q x y z a b->G):G:=bb h λ a h=>E42 h (k a)
theorem E53 {p q r:α->β->γ->δ->ε->Prop}{G:Prop}(h:∃ x y z a b,p x y z a b/\q x y z a b/\r x y z a b)(k:∀ x y z a b,p x y z a b->q x y z a b->r x y z a b->G):G:=bb h λ a h=>E43 h (k a)
theorem E55 {p q r s t:α->β->γ->δ->ε->Prop}{G:Prop}(h:∃ x y z a b,p x y z a b/\q x y z a b/\r x y z a b/\s x y z a b/\t x y z a b)(k:∀ x y z a b,p x y z a b->q x y z a b->r x y z a b->s x y z a b->t x y z a b->G):G:=bb h λ a h=>E45 h (k a)
theorem E63 {p q r:α->β->γ->δ->ε->ζ->Prop}{G:Prop}(h:∃ x y z a b c,p x y z a b c/\q x y z a b c/\r x y z a b c)(k:∀ x y z a b c,p x y z a b c->q x y z a b c->r x y z a b c->G):G:=bb h λ a h=>E53 h (k a)
theorem arQ {x p q b:Nat}(h:x+p<=b)(hp:q+1=p):x+q<=b - 1:=by subst hp;exact Nat.le_sub_of_add_le h
theorem arR {x p b:Nat}(h:x+p<=b):x+1+p<=b+1:=by rw [bB];exact br h
theorem arS {x p q b:Nat}(h:x+p<=b)(hp:q+10<=p):x+1+q<=b:=by rw [bB];exact nT (aT (nT (aT (by decide:1<=10) q) hp) x) h
noncomputable abbrev pw:Program:=PySem.Challenge.pw_pq0081_01
noncomputable def pick:List Nat->List Stmt->Option Stmt
 | [],_=>none
 | [i],b=>b[i]?
 | i :: r,b=>match b[i]? with
  | some (.ClassDef _ _ _ b' _ _ _ _ _ _ _)=>pick r b'
  | _=>none
noncomputable def at_ (r:List Nat):Option Stmt:=pick r pw.main.body
noncomputable def fnD (o:Option Stmt)(qual:Str)(clos:List (Str × Addr))(d kw doc mod:Value)(ann:Option Addr)(code ct:Value):FuncData:=match o with
 | some (.FunctionDef n args body _ _ _ scope _ _ _)=>{ name:=n,qualname:=qual,params:=args,body:=.stmts body,scope,globals:=mainGlobals,closure:=clos,defaults:=d,kwdefaults:=kw,doc,pyModule:=mod,annotations:=ann,code,closureTuple:=ct,builtins:=builtinsNs }
 | _=>{ name:="",qualname:=qual,params:=default,body:=.stmts [],scope:=default,globals:=mainGlobals,closure:=clos,defaults:=d,kwdefaults:=kw }
noncomputable def bodyD (o:Option Stmt):List Stmt:=match o with
 | some (.FunctionDef _ _ body _ _ _ _ _ _ _)=>body
 | _=>[]
noncomputable abbrev fnObj (fd:FuncData):Obj:={ cls:=.type "function",data:=.func fd }
noncomputable def zcX:FuncData:=fnD (at_ [2,0]) "HeapError.__init__" [("__class__",25)] .none .none .none (.str "alikeheap.errors" 194) none (.ref 36) (.ref 30)
noncomputable def zgM:FuncData:=fnD (at_ [5]) "is_op" [] .none .none .none (.str "alikeheap.terms" 250) none (.ref 66) .none
noncomputable def zjX:List Stmt:=bodyD (at_ [5])
noncomputable abbrev zgK:Nat:=67
noncomputable def zdg:FuncData:=fnD (at_ [7,0]) "Bank.__init__" [] .none .none .none (.str "alikeheap.terms" 250) none (.ref 85) .none
noncomputable def zgq:List Stmt:=bodyD (at_ [7,0])
noncomputable abbrev zbG:Nat:=86
noncomputable def zdc:FuncData:=fnD (at_ [7,1]) "Bank.size" [] .none .none .none (.str "alikeheap.terms" 250) none (.ref 92) .none
noncomputable def zgI:List Stmt:=bodyD (at_ [7,1])
noncomputable abbrev zbB:Nat:=93
noncomputable def zbP:FuncData:=fnD (at_ [7,2]) "Bank.take" [] .none .none .none (.str "alikeheap.terms" 250) none (.ref 97) .none
noncomputable def zf8:List Stmt:=bodyD (at_ [7,2])
noncomputable abbrev zaA:Nat:=98
noncomputable def zbV:FuncData:=fnD (at_ [7,3]) "Bank.require" [] .none .none .none (.str "alikeheap.terms" 250) none (.ref 104) .none
noncomputable def zdV:List Stmt:=bodyD (at_ [7,3])
noncomputable abbrev zaX:Nat:=105
noncomputable def zeg:FuncData:=fnD (at_ [7,7]) "Bank.op" [] .none .none .none (.str "alikeheap.terms" 250) none (.ref 130) .none
noncomputable def zin:List Stmt:=bodyD (at_ [7,7])
noncomputable abbrev zbt:Nat:=131
noncomputable def zdp:FuncData:=fnD (at_ [7,8]) "Bank.kids" [] .none .none .none (.str "alikeheap.terms" 250) none (.ref 137) .none
noncomputable def zgH:List Stmt:=bodyD (at_ [7,8])
noncomputable abbrev zaS:Nat:=138
noncomputable def zce:FuncData:=fnD (at_ [9,0]) "Unions.__init__" [] .none .none .none (.str "alikeheap.unions" 395) none (.ref 191) .none
noncomputable def zfc:List Stmt:=bodyD (at_ [9,0])
noncomputable abbrev za8:Nat:=192
noncomputable def zb7:FuncData:=fnD (at_ [9,1]) "Unions.make" [] .none .none .none (.str "alikeheap.unions" 395) none (.ref 198) .none
noncomputable def zeC:List Stmt:=bodyD (at_ [9,1])
noncomputable abbrev zbb:Nat:=199
noncomputable def zb8:FuncData:=fnD (at_ [9,2]) "Unions.size" [] .none .none .none (.str "alikeheap.unions" 395) none (.ref 205) .none
noncomputable def ze6:List Stmt:=bodyD (at_ [9,2])
noncomputable abbrev zaO:Nat:=206
noncomputable def zb9:FuncData:=fnD (at_ [9,3]) "Unions.find" [] .none .none .none (.str "alikeheap.unions" 395) none (.ref 212) .none
noncomputable def zeT:List Stmt:=bodyD (at_ [9,3])
noncomputable abbrev zao:Nat:=213
noncomputable def zbR:FuncData:=fnD (at_ [9,4]) "Unions.merge" [] .none .none .none (.str "alikeheap.unions" 395) none (.ref 219) .none
noncomputable def zd9:List Stmt:=bodyD (at_ [9,4])
noncomputable abbrev zaU:Nat:=220
noncomputable def zbo:FuncData:=fnD (at_ [9,5]) "Unions.members" [] .none .none .none (.str "alikeheap.unions" 395) none (.ref 226) .none
noncomputable def zdq:List Stmt:=bodyD (at_ [9,5])
noncomputable abbrev za4:Nat:=227
noncomputable def zbs:FuncData:=fnD (at_ [9,6]) "Unions.classes" [] .none .none .none (.str "alikeheap.unions" 395) none (.ref 231) .none
noncomputable def zdr:List Stmt:=bodyD (at_ [9,6])
noncomputable abbrev zaz:Nat:=232
noncomputable def zb6:FuncData:=fnD (at_ [9,8]) "Unions.back" [] .none .none .none (.str "alikeheap.unions" 395) none (.ref 245) .none
noncomputable def zfm:List Stmt:=bodyD (at_ [9,8])
noncomputable abbrev zbc:Nat:=246
noncomputable def zex:FuncData:=fnD (at_ [9,9]) "Unions.cut" [] .none .none .none (.str "alikeheap.unions" 395) none (.ref 252) .none
noncomputable def zdk:FuncData:=fnD (at_ [11,0]) "Heap.__init__" [] .none .none .none (.str "alikeheap.heap" 500) none (.ref 273) .none
noncomputable def zgx:List Stmt:=bodyD (at_ [11,0])
noncomputable abbrev zbH:Nat:=274
noncomputable def zdh:FuncData:=fnD (at_ [11,1]) "Heap.size" [] .none .none .none (.str "alikeheap.heap" 500) none (.ref 280) .none
noncomputable def zgF:List Stmt:=bodyD (at_ [11,1])
noncomputable abbrev zaQ:Nat:=281
noncomputable def zdi:FuncData:=fnD (at_ [11,2]) "Heap.node" [] .none .none .none (.str "alikeheap.heap" 500) none (.ref 285) .none
noncomputable def zgB:List Stmt:=bodyD (at_ [11,2])
noncomputable abbrev zbz:Nat:=286
noncomputable def zcf:FuncData:=fnD (at_ [11,3]) "Heap.add" [] .none .none .none (.str "alikeheap.heap" 500) none (.ref 290) .none
noncomputable def zhH:List Stmt:=bodyD (at_ [11,3])
noncomputable abbrev zaP:Nat:=291
noncomputable def zdA:FuncData:=fnD (at_ [11,4]) "Heap.put" [] .none .none .none (.str "alikeheap.heap" 500) none (.ref 295) .none
noncomputable def zhz:List Stmt:=bodyD (at_ [11,4])
noncomputable abbrev zaD:Nat:=296
noncomputable def zbY:FuncData:=fnD (at_ [11,5]) "Heap.look_at" [] .none .none .none (.str "alikeheap.heap" 500) none (.ref 302) .none
noncomputable def zd1:List Stmt:=bodyD (at_ [11,5])
noncomputable abbrev zaY:Nat:=303
noncomputable def zdf:FuncData:=fnD (at_ [11,6]) "Heap.find" [] .none .none .none (.str "alikeheap.heap" 500) none (.ref 309) .none
noncomputable def zgp:List Stmt:=bodyD (at_ [11,6])
noncomputable abbrev zbf:Nat:=310
noncomputable def zbM:FuncData:=fnD (at_ [11,7]) "Heap.are_like" [] .none .none .none (.str "alikeheap.heap" 500) none (.ref 316) .none
noncomputable def zdE:List Stmt:=bodyD (at_ [11,7])
noncomputable abbrev zaN:Nat:=317
noncomputable def zcy:FuncData:=fnD (at_ [11,8]) "Heap.merge" [] .none .none .none (.str "alikeheap.heap" 500) none (.ref 323) .none
noncomputable def zfZ:List Stmt:=bodyD (at_ [11,8])
noncomputable abbrev zaH:Nat:=324
noncomputable def zdd:FuncData:=fnD (at_ [11,9]) "Heap.join" [] .none .none .none (.str "alikeheap.heap" 500) none (.ref 330) .none
noncomputable def zgo:List Stmt:=bodyD (at_ [11,9])
noncomputable abbrev zbD:Nat:=331
noncomputable def zcd:FuncData:=fnD (at_ [11,10]) "Heap.settle" [] .none .none .none (.str "alikeheap.heap" 500) none (.ref 337) .none
noncomputable def zfh:List Stmt:=bodyD (at_ [11,10])
noncomputable abbrev zas:Nat:=338
noncomputable def zbi:FuncData:=fnD (at_ [11,11]) "Heap.is_settled" [] .none .none .none (.str "alikeheap.heap" 500) none (.ref 344) .none
noncomputable def zc2:List Stmt:=bodyD (at_ [11,11])
noncomputable abbrev zav:Nat:=345
noncomputable def zbS:FuncData:=fnD (at_ [11,12]) "Heap.classes" [] .none .none .none (.str "alikeheap.heap" 500) none (.ref 351) .none
noncomputable def zdY:List Stmt:=bodyD (at_ [11,12])
noncomputable abbrev zaw:Nat:=352
noncomputable def zbN:FuncData:=fnD (at_ [11,13]) "Heap.members" [] .none .none .none (.str "alikeheap.heap" 500) none (.ref 358) .none
noncomputable def zdW:List Stmt:=bodyD (at_ [11,13])
noncomputable abbrev zay:Nat:=359
noncomputable def zbI:FuncData:=fnD (at_ [11,14]) "Heap.nodes_of" [] .none .none .none (.str "alikeheap.heap" 500) none (.ref 363) .none
noncomputable def zdI:List Stmt:=bodyD (at_ [11,14])
noncomputable abbrev zaK:Nat:=364
noncomputable def zbj:FuncData:=fnD (at_ [11,15]) "Heap.many_nodes" [] .none .none .none (.str "alikeheap.heap" 500) none (.ref 368) .none
noncomputable def zc6:List Stmt:=bodyD (at_ [11,15])
noncomputable abbrev zau:Nat:=369
noncomputable def zdm:FuncData:=fnD (at_ [11,16]) "Heap.seek" [] .none .none .none (.str "alikeheap.heap" 500) none (.ref 373) .none
noncomputable def zgz:List Stmt:=bodyD (at_ [11,16])
noncomputable abbrev zbC:Nat:=374
noncomputable def zcC:FuncData:=fnD (at_ [11,17]) "Heap.users" [] .none .none .none (.str "alikeheap.heap" 500) none (.ref 380) .none
noncomputable def zfQ:List Stmt:=bodyD (at_ [11,17])
noncomputable abbrev zbk:Nat:=381
noncomputable def zaT:FuncData:=fnD (at_ [13,0]) "Levels.__init__" [("__class__",392)] .none .none .none (.str "alikeheap.levels" 665) none (.ref 403) (.ref 397)
noncomputable def ze0:List Stmt:=bodyD (at_ [13,0])
noncomputable abbrev zcG:Nat:=404
noncomputable def zbU:FuncData:=fnD (at_ [13,1]) "Levels.depth" [] .none .none .none (.str "alikeheap.levels" 665) none (.ref 410) .none
noncomputable def zd6:List Stmt:=bodyD (at_ [13,1])
noncomputable abbrev zax:Nat:=411
noncomputable def zb5:FuncData:=fnD (at_ [13,2]) "Levels.push" [] .none .none .none (.str "alikeheap.levels" 665) none (.ref 417) .none
noncomputable def zeE:List Stmt:=bodyD (at_ [13,2])
noncomputable abbrev zbe:Nat:=418
noncomputable def zcq:FuncData:=fnD (at_ [13,3]) "Levels.pop" [] .none .none .none (.str "alikeheap.levels" 665) none (.ref 424) .none
noncomputable def zfH:List Stmt:=bodyD (at_ [13,3])
noncomputable abbrev za1:Nat:=425
noncomputable def zae:FuncData:=fnD (at_ [13,4]) "Levels.look_at" [("__class__",392)] .none .none .none (.str "alikeheap.levels" 665) none (.ref 432) (.ref 426)
noncomputable def zap:List Stmt:=bodyD (at_ [13,4])
noncomputable abbrev zaf:Nat:=433
noncomputable def zaV:FuncData:=fnD (at_ [13,5]) "Levels.join" [("__class__",392)] .none .none .none (.str "alikeheap.levels" 665) none (.ref 440) (.ref 434)
noncomputable def ze8:List Stmt:=bodyD (at_ [13,5])
noncomputable abbrev zba:Nat:=441
noncomputable def zbJ:FuncData:=fnD (at_ [13,7]) "Levels.unjoin" [] .none .none .none (.str "alikeheap.levels" 665) none (.ref 452) .none
noncomputable def zdO:List Stmt:=bodyD (at_ [13,7])
noncomputable abbrev zaI:Nat:=453
noncomputable def zct:FuncData:=fnD (at_ [14,0]) "Trial.__init__" [] .none .none .none (.str "alikeheap.levels" 665) none (.ref 471) .none
noncomputable def zfT:List Stmt:=bodyD (at_ [14,0])
noncomputable abbrev zbZ:Nat:=472
noncomputable def zaW:FuncData:=fnD (at_ [14,1]) "Trial.tried" [] .none .none .none (.str "alikeheap.levels" 665) none (.ref 476) .none
noncomputable def zbv:List Stmt:=bodyD (at_ [14,1])
noncomputable abbrev zan:Nat:=477
noncomputable def zcb:FuncData:=fnD (at_ [14,2]) "Trial.would" [] .none .none .none (.str "alikeheap.levels" 665) none (.ref 483) .none
noncomputable def zfd:List Stmt:=bodyD (at_ [14,2])
noncomputable abbrev zaL:Nat:=484
noncomputable def zbh:FuncData:=fnD (at_ [14,3]) "Trial.joined_by" [] .none .none .none (.str "alikeheap.levels" 665) none (.ref 488) .none
noncomputable def zcW:List Stmt:=bodyD (at_ [14,3])
noncomputable abbrev zat:Nat:=489
noncomputable def zdo:FuncData:=fnD (at_ [16]) "_law_draw" [] .none .none .none (.str "law_pq0081_01" 841) none (.ref 523) .none
noncomputable def zgb:List Stmt:=bodyD (at_ [16])
noncomputable abbrev zbx:Nat:=524
noncomputable def zcR:FuncData:=fnD (at_ [17]) "_law_begun" [] .none .none .none (.str "law_pq0081_01" 841) none (.ref 530) .none
noncomputable def zf3:List Stmt:=bodyD (at_ [17])
noncomputable abbrev zbl:Nat:=531
noncomputable def zcm:FuncData:=fnD (at_ [18]) "_law_pairs" [] .none .none .none (.str "law_pq0081_01" 841) none (.ref 537) .none
noncomputable def zfI:List Stmt:=bodyD (at_ [18])
noncomputable abbrev zar:Nat:=538
noncomputable def zcw:FuncData:=fnD (at_ [19]) "_law_homes" [] .none .none .none (.str "law_pq0081_01" 841) none (.ref 542) .none
noncomputable def zfp:List Stmt:=bodyD (at_ [19])
noncomputable abbrev zaF:Nat:=543
noncomputable def zcQ:FuncData:=fnD (at_ [20]) "_law_photo" [] .none .none .none (.str "law_pq0081_01" 841) none (.ref 547) .none
noncomputable def zf0:List Stmt:=bodyD (at_ [20])
noncomputable abbrev za0:Nat:=548
noncomputable def zaB:FuncData:=fnD (at_ [21]) "_law_tried_right" [] .none .none .none (.str "law_pq0081_01" 841) none (.ref 552) .none
noncomputable def zcM:List Stmt:=bodyD (at_ [21])
noncomputable abbrev zah:Nat:=553
noncomputable def zbp:FuncData:=fnD (at_ [22]) "law" [] .none .none .none (.str "law_pq0081_01" 841) none (.ref 557) .none
noncomputable def zd3:List Stmt:=bodyD (at_ [22])
noncomputable abbrev zcH:Nat:=558
noncomputable abbrev zeZ:Nat:=403
noncomputable abbrev zeJ:Nat:=392
noncomputable abbrev zdu:Nat:=432
noncomputable abbrev zeL:Nat:=440
noncomputable abbrev zgN:Nat:=174
noncomputable abbrev zgY:Nat:=256
noncomputable abbrev zaa:Nat:=456
noncomputable abbrev zbQ:Nat:=513
noncomputable def Kp (P:Params):Frag:=[
 (1,{ cls:=.type "dict",data:=.dict #[⟨PyData.keyHash P "builtins",.str "builtins" 162,.ref 4⟩,⟨PyData.keyHash P "__main__",.str "__main__" 163,.ref 5⟩] 2 }),
 (2,{ cls:=.none,data:=.dict #[⟨PyData.keyHash P "type.__subclasses__.Exception.0",.str "type.__subclasses__.Exception.0" 230,.int 47 0⟩,⟨PyData.keyHash P "type.__subclasses__.Exception.n",.str "type.__subclasses__.Exception.n" 231,.int 1 0⟩] 2 }),
 (3,{ cls:=.type "dict",data:=.dict #[⟨PyData.keyHash P "__name__",.str "__name__" 165,.str "law_pq0081_01" 841⟩,⟨PyData.keyHash P "__doc__",.str "__doc__" 166,.none⟩,⟨PyData.keyHash P "__package__",.str "__package__" 167,.none⟩,⟨PyData.keyHash P "__loader__",.str "__loader__" 168,.builtin "__main__.__loader__#opaque"⟩,⟨PyData.keyHash P "__spec__",.str "__spec__" 169,.none⟩,⟨PyData.keyHash P "__annotations__",.str "__annotations__" 170,.ref 6⟩,⟨PyData.keyHash P "__builtins__",.str "__builtins__" 171,.ref 4⟩,⟨PyData.keyHash P "__file__",.str "__file__" 173,.str "/claim/cut.py" 172⟩,⟨PyData.keyHash P "__cached__",.str "__cached__" 174,.none⟩,⟨PyData.keyHash P "_wall",.str "_wall" 193,.ref 21⟩,⟨PyData.keyHash P "HeapError",.str "HeapError" 233,.ref 47⟩,⟨PyData.keyHash P "TermFault",.str "TermFault" 249,.ref 60⟩,⟨PyData.keyHash P "is_op",.str "is_op" 257,.ref 67⟩,⟨PyData.keyHash P "parts",.str "parts" 263,.ref 72⟩,⟨PyData.keyHash P "Bank",.str "Bank" 394,.ref 174⟩,⟨PyData.keyHash P "Unions",.str "Unions" 499,.ref 256⟩,⟨PyData.keyHash P "Heap",.str "Heap" 664,.ref 384⟩,⟨PyData.keyHash P "Levels",.str "Levels" 761,.ref 456⟩,⟨PyData.keyHash P "Trial",.str "Trial" 840,.ref 513⟩,⟨PyData.keyHash P "_law_draw",.str "_law_draw" 852,.ref 524⟩,⟨PyData.keyHash P "_law_begun",.str "_law_begun" 865,.ref 531⟩,⟨PyData.keyHash P "_law_pairs",.str "_law_pairs" 877,.ref 538⟩,⟨PyData.keyHash P "_law_homes",.str "_law_homes" 883,.ref 543⟩,⟨PyData.keyHash P "_law_photo",.str "_law_photo" 889,.ref 548⟩,⟨PyData.keyHash P "_law_tried_right",.str "_law_tried_right" 895,.ref 553⟩,⟨PyData.keyHash P "law",.str "law" 901,.ref 558⟩] 26 }),
 (37,fnObj zcX),
 (36,{ cls:=.type "code",data:=.fields #[.str "__init__" 208,.str "HeapError.__init__" 209,.str "/claim/cut.py" 210,.int 7 0,.int 2 0,.int 0 0,.int 0 0,.int 3 0,.ref 31,.bool true,.int 181 0,.ref 32,.none,.ref 33,.ref 34,.ref 35,.int 214 0,.int 7 0,.str "/claim/cut.py" 215] }),
 (25,{ cls:=.type "cell",data:=.cell (some (.ref 47)) }),
 (47,{ cls:=.type "type",dict:=none,data:=.cls { name:="HeapError",bases:=[.type "Exception"],mro:=[.ref 47,.type "Exception",.type "BaseException",.type "object"],ns:=46,qualname:="HeapError",hasDict:=true,slotNames:=[],subclasses:=[.ref 60],abstract:=false,collection:=none,hasDel:=false },slots:=#[some (.ref 22),none,some (.str "HeapError" 196),some (.str "HeapError" 204),some (.builtin "Exception.__new__"),some (.bool true)] }),
 (46,{ cls:=.type "dict",data:=.dict #[⟨PyData.keyHash P "__module__",.str "__module__" 203,.str "alikeheap.errors" 194⟩,⟨PyData.keyHash P "__firstlineno__",.str "__firstlineno__" 207,.int 5 206⟩,⟨PyData.keyHash P "__init__",.str "__init__" 216,.ref 37⟩,⟨PyData.keyHash P "told",.str "told" 223,.ref 44⟩,⟨PyData.keyHash P "__static_attributes__",.str "__static_attributes__" 225,.ref 45⟩,⟨PyData.keyHash P "__weakref__",.str "__weakref__" 228,.ref 48⟩,⟨PyData.keyHash P "__doc__",.str "__doc__" 229,.none⟩] 4 }),
 (60,{ cls:=.type "type",dict:=none,data:=.cls { name:="TermFault",bases:=[.ref 47],mro:=[.ref 60,.ref 47,.type "Exception",.type "BaseException",.type "object"],ns:=59,qualname:="TermFault",hasDict:=true,slotNames:=[],subclasses:=[],abstract:=false,collection:=none,hasDel:=false },slots:=#[some (.ref 51),none,some (.str "TermFault" 234),some (.str "TermFault" 242),some (.builtin "Exception.__new__"),some (.bool true)] }),
 (59,{ cls:=.type "dict",data:=.dict #[⟨PyData.keyHash P "__module__",.str "__module__" 241,.str "alikeheap.errors" 194⟩,⟨PyData.keyHash P "__firstlineno__",.str "__firstlineno__" 245,.int 13 244⟩,⟨PyData.keyHash P "__static_attributes__",.str "__static_attributes__" 246,.ref 58⟩,⟨PyData.keyHash P "__doc__",.str "__doc__" 247,.none⟩] 2 }),
 (67,fnObj zgM),
 (66,{ cls:=.type "code",data:=.fields #[.str "is_op" 252,.str "is_op" 253,.str "/claim/cut.py" 254,.int 16 0,.int 1 0,.int 0 0,.int 0 0,.int 3 0,.ref 63,.bool true,.int 181 0,.ref 64,.none,.none,.none,.ref 65,.int 255 0,.int 16 0,.str "/claim/cut.py" 256] }),
 (86,fnObj zdg),
 (85,{ cls:=.type "code",data:=.fields #[.str "__init__" 276,.str "Bank.__init__" 277,.str "/claim/cut.py" 278,.int 25 0,.int 1 0,.int 0 0,.int 0 0,.int 3 0,.ref 80,.bool true,.int 181 0,.ref 81,.none,.ref 82,.ref 83,.ref 84,.int 280 0,.int 25 0,.str "/claim/cut.py" 281] }),
 (93,fnObj zdc),
 (92,{ cls:=.type "code",data:=.fields #[.str "size" 283,.str "Bank.size" 284,.str "/claim/cut.py" 285,.int 31 0,.int 1 0,.int 0 0,.int 0 0,.int 3 0,.ref 87,.bool true,.int 181 0,.ref 88,.none,.ref 89,.ref 90,.ref 91,.int 287 0,.int 31 0,.str "/claim/cut.py" 288] }),
 (98,fnObj zbP),
 (97,{ cls:=.type "code",data:=.fields #[.str "take" 290,.str "Bank.take" 291,.str "/claim/cut.py" 292,.int 34 0,.int 3 0,.int 0 0,.int 0 0,.int 3 0,.ref 94,.bool true,.int 181 0,.ref 95,.none,.none,.none,.ref 96,.int 293 0,.int 34 0,.str "/claim/cut.py" 294] }),
 (105,fnObj zbV),
 (104,{ cls:=.type "code",data:=.fields #[.str "require" 296,.str "Bank.require" 297,.str "/claim/cut.py" 298,.int 48 0,.int 2 0,.int 0 0,.int 0 0,.int 3 0,.ref 99,.bool true,.int 181 0,.ref 100,.none,.ref 101,.ref 102,.ref 103,.int 301 0,.int 48 0,.str "/claim/cut.py" 302] }),
 (131,fnObj zeg),
 (130,{ cls:=.type "code",data:=.fields #[.str "op" 328,.str "Bank.op" 329,.str "/claim/cut.py" 330,.int 66 0,.int 2 0,.int 0 0,.int 0 0,.int 3 0,.ref 125,.bool true,.int 181 0,.ref 126,.none,.ref 127,.ref 128,.ref 129,.int 333 0,.int 66 0,.str "/claim/cut.py" 334] }),
 (138,fnObj zdp),
 (137,{ cls:=.type "code",data:=.fields #[.str "kids" 336,.str "Bank.kids" 337,.str "/claim/cut.py" 338,.int 69 0,.int 2 0,.int 0 0,.int 0 0,.int 3 0,.ref 132,.bool true,.int 181 0,.ref 133,.none,.ref 134,.ref 135,.ref 136,.int 341 0,.int 69 0,.str "/claim/cut.py" 342] }),
 (174,{ cls:=.type "type",dict:=none,data:=.cls { name:="Bank",bases:=[.type "object"],mro:=[.ref 174,.type "object"],ns:=173,qualname:="Bank",hasDict:=true,slotNames:=[],subclasses:=[],abstract:=false,collection:=none,hasDel:=false },slots:=#[none,none,some (.str "Bank" 264),some (.str "Bank" 272),some (.builtin "object.__new__"),some (.bool true)] }),
 (173,{ cls:=.type "dict",data:=.dict #[⟨PyData.keyHash P "__module__",.str "__module__" 271,.str "alikeheap.terms" 250⟩,⟨PyData.keyHash P "__firstlineno__",.str "__firstlineno__" 275,.int 23 274⟩,⟨PyData.keyHash P "__init__",.str "__init__" 282,.ref 86⟩,⟨PyData.keyHash P "size",.str "size" 289,.ref 93⟩,⟨PyData.keyHash P "take",.str "take" 295,.ref 98⟩,⟨PyData.keyHash P "require",.str "require" 303,.ref 105⟩,⟨PyData.keyHash P "put",.str "put" 313,.ref 112⟩,⟨PyData.keyHash P "put_all",.str "put_all" 319,.ref 117⟩,⟨PyData.keyHash P "cut",.str "cut" 327,.ref 124⟩,⟨PyData.keyHash P "op",.str "op" 335,.ref 131⟩,⟨PyData.keyHash P "kids",.str "kids" 343,.ref 138⟩,⟨PyData.keyHash P "node",.str "node" 351,.ref 145⟩,⟨PyData.keyHash P "term",.str "term" 357,.ref 150⟩,⟨PyData.keyHash P "weight",.str "weight" 365,.ref 157⟩,⟨PyData.keyHash P "depth",.str "depth" 373,.ref 164⟩,⟨PyData.keyHash P "seek",.str "seek" 382,.ref 171⟩,⟨PyData.keyHash P "__static_attributes__",.str "__static_attributes__" 387,.ref 172⟩,⟨PyData.keyHash P "__dict__",.str "__dict__" 389,.ref 175⟩,⟨PyData.keyHash P "__weakref__",.str "__weakref__" 391,.ref 176⟩,⟨PyData.keyHash P "__doc__",.str "__doc__" 392,.none⟩] 4 }),
 (192,fnObj zce),
 (191,{ cls:=.type "code",data:=.fields #[.str "__init__" 409,.str "Unions.__init__" 410,.str "/claim/cut.py" 411,.int 98 0,.int 1 0,.int 0 0,.int 0 0,.int 3 0,.ref 186,.bool true,.int 181 0,.ref 187,.none,.ref 188,.ref 189,.ref 190,.int 413 0,.int 98 0,.str "/claim/cut.py" 414] }),
 (199,fnObj zb7),
 (198,{ cls:=.type "code",data:=.fields #[.str "make" 416,.str "Unions.make" 417,.str "/claim/cut.py" 418,.int 103 0,.int 1 0,.int 0 0,.int 0 0,.int 3 0,.ref 193,.bool true,.int 181 0,.ref 194,.none,.ref 195,.ref 196,.ref 197,.int 420 0,.int 103 0,.str "/claim/cut.py" 421] }),
 (206,fnObj zb8),
 (205,{ cls:=.type "code",data:=.fields #[.str "size" 423,.str "Unions.size" 424,.str "/claim/cut.py" 425,.int 108 0,.int 1 0,.int 0 0,.int 0 0,.int 3 0,.ref 200,.bool true,.int 181 0,.ref 201,.none,.ref 202,.ref 203,.ref 204,.int 427 0,.int 108 0,.str "/claim/cut.py" 428] }),
 (213,fnObj zb9),
 (212,{ cls:=.type "code",data:=.fields #[.str "find" 430,.str "Unions.find" 431,.str "/claim/cut.py" 432,.int 111 0,.int 2 0,.int 0 0,.int 0 0,.int 3 0,.ref 207,.bool true,.int 181 0,.ref 208,.none,.ref 209,.ref 210,.ref 211,.int 435 0,.int 111 0,.str "/claim/cut.py" 436] }),
 (220,fnObj zbR),
 (219,{ cls:=.type "code",data:=.fields #[.str "merge" 438,.str "Unions.merge" 439,.str "/claim/cut.py" 440,.int 116 0,.int 3 0,.int 0 0,.int 0 0,.int 3 0,.ref 214,.bool true,.int 181 0,.ref 215,.none,.ref 216,.ref 217,.ref 218,.int 446 0,.int 116 0,.str "/claim/cut.py" 447] }),
 (227,fnObj zbo),
 (226,{ cls:=.type "code",data:=.fields #[.str "members" 449,.str "Unions.members" 450,.str "/claim/cut.py" 451,.int 125 0,.int 2 0,.int 0 0,.int 0 0,.int 3 0,.ref 221,.bool true,.int 181 0,.ref 222,.none,.ref 223,.ref 224,.ref 225,.int 454 0,.int 125 0,.str "/claim/cut.py" 455] }),
 (232,fnObj zbs),
 (231,{ cls:=.type "code",data:=.fields #[.str "classes" 457,.str "Unions.classes" 458,.str "/claim/cut.py" 459,.int 128 0,.int 1 0,.int 0 0,.int 0 0,.int 3 0,.ref 228,.bool true,.int 181 0,.ref 229,.none,.none,.none,.ref 230,.int 460 0,.int 128 0,.str "/claim/cut.py" 461] }),
 (246,fnObj zb6),
 (245,{ cls:=.type "code",data:=.fields #[.str "back" 470,.str "Unions.back" 471,.str "/claim/cut.py" 472,.int 134 0,.int 2 0,.int 0 0,.int 0 0,.int 3 0,.ref 240,.bool true,.int 181 0,.ref 241,.none,.ref 242,.ref 243,.ref 244,.int 477 0,.int 134 0,.str "/claim/cut.py" 478] }),
 (253,fnObj zex),
 (252,{ cls:=.type "code",data:=.fields #[.str "cut" 480,.str "Unions.cut" 481,.str "/claim/cut.py" 482,.int 140 0,.int 2 0,.int 0 0,.int 0 0,.int 3 0,.ref 247,.bool true,.int 181 0,.ref 248,.none,.ref 249,.ref 250,.ref 251,.int 486 0,.int 140 0,.str "/claim/cut.py" 487] }),
 (256,{ cls:=.type "type",dict:=none,data:=.cls { name:="Unions",bases:=[.type "object"],mro:=[.ref 256,.type "object"],ns:=255,qualname:="Unions",hasDict:=true,slotNames:=[],subclasses:=[],abstract:=false,collection:=none,hasDel:=false },slots:=#[none,none,some (.str "Unions" 397),some (.str "Unions" 405),some (.builtin "object.__new__"),some (.bool true)] }),
 (255,{ cls:=.type "dict",data:=.dict #[⟨PyData.keyHash P "__module__",.str "__module__" 404,.str "alikeheap.unions" 395⟩,⟨PyData.keyHash P "__firstlineno__",.str "__firstlineno__" 408,.int 96 407⟩,⟨PyData.keyHash P "__init__",.str "__init__" 415,.ref 192⟩,⟨PyData.keyHash P "make",.str "make" 422,.ref 199⟩,⟨PyData.keyHash P "size",.str "size" 429,.ref 206⟩,⟨PyData.keyHash P "find",.str "find" 437,.ref 213⟩,⟨PyData.keyHash P "merge",.str "merge" 448,.ref 220⟩,⟨PyData.keyHash P "members",.str "members" 456,.ref 227⟩,⟨PyData.keyHash P "classes",.str "classes" 462,.ref 232⟩,⟨PyData.keyHash P "log",.str "log" 469,.ref 239⟩,⟨PyData.keyHash P "back",.str "back" 479,.ref 246⟩,⟨PyData.keyHash P "cut",.str "cut" 488,.ref 253⟩,⟨PyData.keyHash P "__static_attributes__",.str "__static_attributes__" 492,.ref 254⟩,⟨PyData.keyHash P "__dict__",.str "__dict__" 494,.ref 257⟩,⟨PyData.keyHash P "__weakref__",.str "__weakref__" 496,.ref 258⟩,⟨PyData.keyHash P "__doc__",.str "__doc__" 497,.none⟩] 4 }),
 (274,fnObj zdk),
 (273,{ cls:=.type "code",data:=.fields #[.str "__init__" 514,.str "Heap.__init__" 515,.str "/claim/cut.py" 516,.int 149 0,.int 1 0,.int 0 0,.int 0 0,.int 3 0,.ref 268,.bool true,.int 181 0,.ref 269,.none,.ref 270,.ref 271,.ref 272,.int 518 0,.int 149 0,.str "/claim/cut.py" 519] }),
 (281,fnObj zdh),
 (280,{ cls:=.type "code",data:=.fields #[.str "size" 521,.str "Heap.size" 522,.str "/claim/cut.py" 523,.int 158 0,.int 1 0,.int 0 0,.int 0 0,.int 3 0,.ref 275,.bool true,.int 181 0,.ref 276,.none,.ref 277,.ref 278,.ref 279,.int 525 0,.int 158 0,.str "/claim/cut.py" 526] }),
 (286,fnObj zdi),
 (285,{ cls:=.type "code",data:=.fields #[.str "node" 528,.str "Heap.node" 529,.str "/claim/cut.py" 530,.int 161 0,.int 2 0,.int 0 0,.int 0 0,.int 3 0,.ref 282,.bool true,.int 181 0,.ref 283,.none,.none,.none,.ref 284,.int 531 0,.int 161 0,.str "/claim/cut.py" 532] }),
 (291,fnObj zcf),
 (290,{ cls:=.type "code",data:=.fields #[.str "add" 534,.str "Heap.add" 535,.str "/claim/cut.py" 536,.int 164 0,.int 3 0,.int 0 0,.int 0 0,.int 3 0,.ref 287,.bool true,.int 181 0,.ref 288,.none,.none,.none,.ref 289,.int 537 0,.int 164 0,.str "/claim/cut.py" 538] }),
 (296,fnObj zdA),
 (295,{ cls:=.type "code",data:=.fields #[.str "put" 540,.str "Heap.put" 541,.str "/claim/cut.py" 542,.int 175 0,.int 2 0,.int 0 0,.int 0 0,.int 3 0,.ref 292,.bool true,.int 181 0,.ref 293,.none,.none,.none,.ref 294,.int 543 0,.int 175 0,.str "/claim/cut.py" 544] }),
 (303,fnObj zbY),
 (302,{ cls:=.type "code",data:=.fields #[.str "look_at" 546,.str "Heap.look_at" 547,.str "/claim/cut.py" 548,.int 178 0,.int 2 0,.int 0 0,.int 0 0,.int 3 0,.ref 297,.bool true,.int 181 0,.ref 298,.none,.ref 299,.ref 300,.ref 301,.int 552 0,.int 178 0,.str "/claim/cut.py" 553] }),
 (310,fnObj zdf),
 (309,{ cls:=.type "code",data:=.fields #[.str "find" 555,.str "Heap.find" 556,.str "/claim/cut.py" 557,.int 183 0,.int 2 0,.int 0 0,.int 0 0,.int 3 0,.ref 304,.bool true,.int 181 0,.ref 305,.none,.ref 306,.ref 307,.ref 308,.int 560 0,.int 183 0,.str "/claim/cut.py" 561] }),
 (317,fnObj zbM),
 (316,{ cls:=.type "code",data:=.fields #[.str "are_like" 563,.str "Heap.are_like" 564,.str "/claim/cut.py" 565,.int 186 0,.int 3 0,.int 0 0,.int 0 0,.int 3 0,.ref 311,.bool true,.int 181 0,.ref 312,.none,.ref 313,.ref 314,.ref 315,.int 569 0,.int 186 0,.str "/claim/cut.py" 570] }),
 (324,fnObj zcy),
 (323,{ cls:=.type "code",data:=.fields #[.str "merge" 572,.str "Heap.merge" 573,.str "/claim/cut.py" 574,.int 189 0,.int 4 0,.int 0 0,.int 0 0,.int 3 0,.ref 318,.bool true,.int 181 0,.ref 319,.none,.ref 320,.ref 321,.ref 322,.int 579 0,.int 189 0,.str "/claim/cut.py" 580] }),
 (331,fnObj zdd),
 (330,{ cls:=.type "code",data:=.fields #[.str "join" 582,.str "Heap.join" 583,.str "/claim/cut.py" 584,.int 192 0,.int 4 0,.int 0 0,.int 0 0,.int 3 0,.ref 325,.bool true,.int 181 0,.ref 326,.none,.ref 327,.ref 328,.ref 329,.int 592 0,.int 192 0,.str "/claim/cut.py" 593] }),
 (338,fnObj zcd),
 (337,{ cls:=.type "code",data:=.fields #[.str "settle" 595,.str "Heap.settle" 596,.str "/claim/cut.py" 597,.int 203 0,.int 1 0,.int 0 0,.int 0 0,.int 3 0,.ref 332,.bool true,.int 181 0,.ref 333,.none,.ref 334,.ref 335,.ref 336,.int 599 0,.int 203 0,.str "/claim/cut.py" 600] }),
 (345,fnObj zbi),
 (344,{ cls:=.type "code",data:=.fields #[.str "is_settled" 602,.str "Heap.is_settled" 603,.str "/claim/cut.py" 604,.int 207 0,.int 1 0,.int 0 0,.int 0 0,.int 3 0,.ref 339,.bool true,.int 181 0,.ref 340,.none,.ref 341,.ref 342,.ref 343,.int 606 0,.int 207 0,.str "/claim/cut.py" 607] }),
 (352,fnObj zbS),
 (351,{ cls:=.type "code",data:=.fields #[.str "classes" 609,.str "Heap.classes" 610,.str "/claim/cut.py" 611,.int 210 0,.int 1 0,.int 0 0,.int 0 0,.int 3 0,.ref 346,.bool true,.int 181 0,.ref 347,.none,.ref 348,.ref 349,.ref 350,.int 613 0,.int 210 0,.str "/claim/cut.py" 614] }),
 (359,fnObj zbN),
 (358,{ cls:=.type "code",data:=.fields #[.str "members" 616,.str "Heap.members" 617,.str "/claim/cut.py" 618,.int 213 0,.int 2 0,.int 0 0,.int 0 0,.int 3 0,.ref 353,.bool true,.int 181 0,.ref 354,.none,.ref 355,.ref 356,.ref 357,.int 621 0,.int 213 0,.str "/claim/cut.py" 622] }),
 (364,fnObj zbI),
 (363,{ cls:=.type "code",data:=.fields #[.str "nodes_of" 624,.str "Heap.nodes_of" 625,.str "/claim/cut.py" 626,.int 216 0,.int 2 0,.int 0 0,.int 0 0,.int 3 0,.ref 360,.bool true,.int 181 0,.ref 361,.none,.none,.none,.ref 362,.int 627 0,.int 216 0,.str "/claim/cut.py" 628] }),
 (369,fnObj zbj),
 (368,{ cls:=.type "code",data:=.fields #[.str "many_nodes" 630,.str "Heap.many_nodes" 631,.str "/claim/cut.py" 632,.int 219 0,.int 1 0,.int 0 0,.int 0 0,.int 3 0,.ref 365,.bool true,.int 181 0,.ref 366,.none,.none,.none,.ref 367,.int 633 0,.int 219 0,.str "/claim/cut.py" 634] }),
 (374,fnObj zdm),
 (373,{ cls:=.type "code",data:=.fields #[.str "seek" 636,.str "Heap.seek" 637,.str "/claim/cut.py" 638,.int 222 0,.int 3 0,.int 0 0,.int 0 0,.int 3 0,.ref 370,.bool true,.int 181 0,.ref 371,.none,.none,.none,.ref 372,.int 639 0,.int 222 0,.str "/claim/cut.py" 640] }),
 (381,fnObj zcC),
 (380,{ cls:=.type "code",data:=.fields #[.str "users" 642,.str "Heap.users" 643,.str "/claim/cut.py" 644,.int 226 0,.int 2 0,.int 0 0,.int 0 0,.int 3 0,.ref 375,.bool true,.int 181 0,.ref 376,.none,.ref 377,.ref 378,.ref 379,.int 647 0,.int 226 0,.str "/claim/cut.py" 648] }),
 (384,{ cls:=.type "type",dict:=none,data:=.cls { name:="Heap",bases:=[.type "object"],mro:=[.ref 384,.type "object"],ns:=383,qualname:="Heap",hasDict:=true,slotNames:=[],subclasses:=[.ref 456],abstract:=false,collection:=none,hasDel:=false },slots:=#[none,none,some (.str "Heap" 502),some (.str "Heap" 510),some (.builtin "object.__new__"),some (.bool true)] }),
 (383,{ cls:=.type "dict",data:=.dict #[⟨PyData.keyHash P "__module__",.str "__module__" 509,.str "alikeheap.heap" 500⟩,⟨PyData.keyHash P "__firstlineno__",.str "__firstlineno__" 513,.int 147 512⟩,⟨PyData.keyHash P "__init__",.str "__init__" 520,.ref 274⟩,⟨PyData.keyHash P "size",.str "size" 527,.ref 281⟩,⟨PyData.keyHash P "node",.str "node" 533,.ref 286⟩,⟨PyData.keyHash P "add",.str "add" 539,.ref 291⟩,⟨PyData.keyHash P "put",.str "put" 545,.ref 296⟩,⟨PyData.keyHash P "look_at",.str "look_at" 554,.ref 303⟩,⟨PyData.keyHash P "find",.str "find" 562,.ref 310⟩,⟨PyData.keyHash P "are_like",.str "are_like" 571,.ref 317⟩,⟨PyData.keyHash P "merge",.str "merge" 581,.ref 324⟩,⟨PyData.keyHash P "join",.str "join" 594,.ref 331⟩,⟨PyData.keyHash P "settle",.str "settle" 601,.ref 338⟩,⟨PyData.keyHash P "is_settled",.str "is_settled" 608,.ref 345⟩,⟨PyData.keyHash P "classes",.str "classes" 615,.ref 352⟩,⟨PyData.keyHash P "members",.str "members" 623,.ref 359⟩,⟨PyData.keyHash P "nodes_of",.str "nodes_of" 629,.ref 364⟩,⟨PyData.keyHash P "many_nodes",.str "many_nodes" 635,.ref 369⟩,⟨PyData.keyHash P "seek",.str "seek" 641,.ref 374⟩,⟨PyData.keyHash P "users",.str "users" 649,.ref 381⟩,⟨PyData.keyHash P "__static_attributes__",.str "__static_attributes__" 657,.ref 382⟩,⟨PyData.keyHash P "__dict__",.str "__dict__" 659,.ref 385⟩,⟨PyData.keyHash P "__weakref__",.str "__weakref__" 661,.ref 386⟩,⟨PyData.keyHash P "__doc__",.str "__doc__" 662,.none⟩] 4 }),
 (404,fnObj zaT),
 (403,{ cls:=.type "code",data:=.fields #[.str "__init__" 679,.str "Levels.__init__" 680,.str "/claim/cut.py" 681,.int 231 0,.int 1 0,.int 0 0,.int 0 0,.int 3 0,.ref 398,.bool true,.int 181 0,.ref 399,.none,.ref 400,.ref 401,.ref 402,.int 684 0,.int 231 0,.str "/claim/cut.py" 685] }),
 (392,{ cls:=.type "cell",data:=.cell (some (.ref 456)) }),
 (411,fnObj zbU),
 (410,{ cls:=.type "code",data:=.fields #[.str "depth" 687,.str "Levels.depth" 688,.str "/claim/cut.py" 689,.int 237 0,.int 1 0,.int 0 0,.int 0 0,.int 3 0,.ref 405,.bool true,.int 181 0,.ref 406,.none,.ref 407,.ref 408,.ref 409,.int 691 0,.int 237 0,.str "/claim/cut.py" 692] }),
 (418,fnObj zb5),
 (417,{ cls:=.type "code",data:=.fields #[.str "push" 694,.str "Levels.push" 695,.str "/claim/cut.py" 696,.int 240 0,.int 1 0,.int 0 0,.int 0 0,.int 3 0,.ref 412,.bool true,.int 181 0,.ref 413,.none,.ref 414,.ref 415,.ref 416,.int 698 0,.int 240 0,.str "/claim/cut.py" 699] }),
 (425,fnObj zcq),
 (424,{ cls:=.type "code",data:=.fields #[.str "pop" 701,.str "Levels.pop" 702,.str "/claim/cut.py" 703,.int 243 0,.int 1 0,.int 0 0,.int 0 0,.int 3 0,.ref 419,.bool true,.int 181 0,.ref 420,.none,.ref 421,.ref 422,.ref 423,.int 708 0,.int 243 0,.str "/claim/cut.py" 709] }),
 (433,fnObj zae),
 (432,{ cls:=.type "code",data:=.fields #[.str "look_at" 711,.str "Levels.look_at" 712,.str "/claim/cut.py" 713,.int 257 0,.int 2 0,.int 0 0,.int 0 0,.int 3 0,.ref 427,.bool true,.int 181 0,.ref 428,.none,.ref 429,.ref 430,.ref 431,.int 718 0,.int 257 0,.str "/claim/cut.py" 719] }),
 (441,fnObj zaV),
 (440,{ cls:=.type "code",data:=.fields #[.str "join" 721,.str "Levels.join" 722,.str "/claim/cut.py" 723,.int 266 0,.int 4 0,.int 0 0,.int 0 0,.int 3 0,.ref 435,.bool true,.int 181 0,.ref 436,.none,.ref 437,.ref 438,.ref 439,.int 731 0,.int 266 0,.str "/claim/cut.py" 732] }),
 (453,fnObj zbJ),
 (452,{ cls:=.type "code",data:=.fields #[.str "unjoin" 740,.str "Levels.unjoin" 741,.str "/claim/cut.py" 742,.int 279 0,.int 2 0,.int 0 0,.int 0 0,.int 3 0,.ref 447,.bool true,.int 181 0,.ref 448,.none,.ref 449,.ref 450,.ref 451,.int 750 0,.int 279 0,.str "/claim/cut.py" 751] }),
 (456,{ cls:=.type "type",dict:=none,data:=.cls { name:="Levels",bases:=[.ref 384],mro:=[.ref 456,.ref 384,.type "object"],ns:=455,qualname:="Levels",hasDict:=true,slotNames:=[],subclasses:=[],abstract:=false,collection:=none,hasDel:=false },slots:=#[some (.ref 389),none,some (.str "Levels" 667),some (.str "Levels" 675),some (.builtin "object.__new__"),some (.bool true)] }),
 (455,{ cls:=.type "dict",data:=.dict #[⟨PyData.keyHash P "__module__",.str "__module__" 674,.str "alikeheap.levels" 665⟩,⟨PyData.keyHash P "__firstlineno__",.str "__firstlineno__" 678,.int 229 677⟩,⟨PyData.keyHash P "__init__",.str "__init__" 686,.ref 404⟩,⟨PyData.keyHash P "depth",.str "depth" 693,.ref 411⟩,⟨PyData.keyHash P "push",.str "push" 700,.ref 418⟩,⟨PyData.keyHash P "pop",.str "pop" 710,.ref 425⟩,⟨PyData.keyHash P "look_at",.str "look_at" 720,.ref 433⟩,⟨PyData.keyHash P "join",.str "join" 733,.ref 441⟩,⟨PyData.keyHash P "unmake",.str "unmake" 739,.ref 446⟩,⟨PyData.keyHash P "unjoin",.str "unjoin" 752,.ref 453⟩,⟨PyData.keyHash P "__static_attributes__",.str "__static_attributes__" 757,.ref 454⟩,⟨PyData.keyHash P "__doc__",.str "__doc__" 759,.none⟩] 3 }),
 (472,fnObj zct),
 (471,{ cls:=.type "code",data:=.fields #[.str "__init__" 774,.str "Trial.__init__" 775,.str "/claim/cut.py" 776,.int 289 0,.int 2 0,.int 0 0,.int 0 0,.int 3 0,.ref 466,.bool true,.int 181 0,.ref 467,.none,.ref 468,.ref 469,.ref 470,.int 779 0,.int 289 0,.str "/claim/cut.py" 780] }),
 (477,fnObj zaW),
 (476,{ cls:=.type "code",data:=.fields #[.str "tried" 782,.str "Trial.tried" 783,.str "/claim/cut.py" 784,.int 293 0,.int 2 0,.int 0 0,.int 0 0,.int 3 0,.ref 473,.bool true,.int 181 0,.ref 474,.none,.none,.none,.ref 475,.int 785 0,.int 293 0,.str "/claim/cut.py" 786] }),
 (484,fnObj zcb),
 (483,{ cls:=.type "code",data:=.fields #[.str "would" 788,.str "Trial.would" 789,.str "/claim/cut.py" 790,.int 302 0,.int 4 0,.int 0 0,.int 0 0,.int 3 0,.ref 478,.bool true,.int 181 0,.ref 479,.none,.ref 480,.ref 481,.ref 482,.int 796 0,.int 302 0,.str "/claim/cut.py" 797] }),
 (489,fnObj zbh),
 (488,{ cls:=.type "code",data:=.fields #[.str "joined_by" 799,.str "Trial.joined_by" 800,.str "/claim/cut.py" 801,.int 308 0,.int 2 0,.int 0 0,.int 0 0,.int 3 0,.ref 485,.bool true,.int 181 0,.ref 486,.none,.none,.none,.ref 487,.int 802 0,.int 308 0,.str "/claim/cut.py" 803] }),
 (513,{ cls:=.type "type",dict:=none,data:=.cls { name:="Trial",bases:=[.type "object"],mro:=[.ref 513,.type "object"],ns:=512,qualname:="Trial",hasDict:=true,slotNames:=[],subclasses:=[],abstract:=false,collection:=none,hasDel:=false },slots:=#[none,none,some (.str "Trial" 762),some (.str "Trial" 770),some (.builtin "object.__new__"),some (.bool true)] }),
 (512,{ cls:=.type "dict",data:=.dict #[⟨PyData.keyHash P "__module__",.str "__module__" 769,.str "alikeheap.levels" 665⟩,⟨PyData.keyHash P "__firstlineno__",.str "__firstlineno__" 773,.int 287 772⟩,⟨PyData.keyHash P "__init__",.str "__init__" 781,.ref 472⟩,⟨PyData.keyHash P "tried",.str "tried" 787,.ref 477⟩,⟨PyData.keyHash P "would",.str "would" 798,.ref 484⟩,⟨PyData.keyHash P "joined_by",.str "joined_by" 804,.ref 489⟩,⟨PyData.keyHash P "independent",.str "independent" 812,.ref 496⟩,⟨PyData.keyHash P "causes",.str "causes" 822,.ref 503⟩,⟨PyData.keyHash P "weakest",.str "weakest" 831,.ref 510⟩,⟨PyData.keyHash P "__static_attributes__",.str "__static_attributes__" 833,.ref 511⟩,⟨PyData.keyHash P "__dict__",.str "__dict__" 835,.ref 514⟩,⟨PyData.keyHash P "__weakref__",.str "__weakref__" 837,.ref 515⟩,⟨PyData.keyHash P "__doc__",.str "__doc__" 838,.none⟩] 4 }),
 (524,fnObj zdo),
 (523,{ cls:=.type "code",data:=.fields #[.str "_law_draw" 843,.str "_law_draw" 844,.str "/claim/cut.py" 845,.int 325 0,.int 2 0,.int 0 0,.int 0 0,.int 3 0,.ref 518,.bool true,.int 181 0,.ref 519,.none,.ref 520,.ref 521,.ref 522,.int 850 0,.int 325 0,.str "/claim/cut.py" 851] }),
 (531,fnObj zcR),
 (530,{ cls:=.type "code",data:=.fields #[.str "_law_begun" 853,.str "_law_begun" 854,.str "/claim/cut.py" 855,.int 331 0,.int 1 0,.int 0 0,.int 0 0,.int 3 0,.ref 525,.bool true,.int 181 0,.ref 526,.none,.ref 527,.ref 528,.ref 529,.int 863 0,.int 331 0,.str "/claim/cut.py" 864] }),
 (538,fnObj zcm),
 (537,{ cls:=.type "code",data:=.fields #[.str "_law_pairs" 866,.str "_law_pairs" 867,.str "/claim/cut.py" 868,.int 339 0,.int 3 0,.int 0 0,.int 0 0,.int 3 0,.ref 532,.bool true,.int 181 0,.ref 533,.none,.ref 534,.ref 535,.ref 536,.int 875 0,.int 339 0,.str "/claim/cut.py" 876] }),
 (543,fnObj zcw),
 (542,{ cls:=.type "code",data:=.fields #[.str "_law_homes" 878,.str "_law_homes" 879,.str "/claim/cut.py" 880,.int 345 0,.int 2 0,.int 0 0,.int 0 0,.int 3 0,.ref 539,.bool true,.int 181 0,.ref 540,.none,.none,.none,.ref 541,.int 881 0,.int 345 0,.str "/claim/cut.py" 882] }),
 (548,fnObj zcQ),
 (547,{ cls:=.type "code",data:=.fields #[.str "_law_photo" 884,.str "_law_photo" 885,.str "/claim/cut.py" 886,.int 354 0,.int 1 0,.int 0 0,.int 0 0,.int 3 0,.ref 544,.bool true,.int 181 0,.ref 545,.none,.none,.none,.ref 546,.int 887 0,.int 354 0,.str "/claim/cut.py" 888] }),
 (553,fnObj zaB),
 (552,{ cls:=.type "code",data:=.fields #[.str "_law_tried_right" 890,.str "_law_tried_right" 891,.str "/claim/cut.py" 892,.int 358 0,.int 4 0,.int 0 0,.int 0 0,.int 3 0,.ref 549,.bool true,.int 181 0,.ref 550,.none,.none,.none,.ref 551,.int 893 0,.int 358 0,.str "/claim/cut.py" 894] }),
 (558,fnObj zbp),
 (557,{ cls:=.type "code",data:=.fields #[.str "law" 896,.str "law" 897,.str "/claim/cut.py" 898,.int 369 0,.int 1 0,.int 0 0,.int 0 0,.int 3 0,.ref 554,.bool true,.int 181 0,.ref 555,.none,.none,.none,.ref 556,.int 899 0,.int 369 0,.str "/claim/cut.py" 900] })]
inductive Id where
 | h (n:Nat) | lot (n:Nat) | usr (n:Nat) | t (n:Nat) | w (n:Nat)
 deriving DecidableEq
inductive KA where
 | s (x:Str) | i (n:Int)
 deriving DecidableEq
inductive V where
 | none
 | bool (b:Bool)
 | int (i:Int)
 | str (s:Str)
 | tup (l:List V)
 | lst (l:List V)
 | ref (k:Id)
 | lit (v:Value)
 | rng (a b:Int)
 | set (led:Bool) (l:List V)
set_option genInjectivity false in
inductive MO where
 | list (l:List V)
 | dI (es:List (Int × V))
 | dT (es:List (List KA × V))
 | inst (C:Nat) (fs:List (Str × V))
 | dF (es:List (Int × V)) (n:Nat)
 | vw (k:Id)
noncomputable abbrev Mem:=Id->Option MO
noncomputable def Mem.set (μ:Mem)(k:Id)(o:MO):Mem:=λ j=>if j=k then some o else μ j
noncomputable abbrev Loc:=List (Str × V)
set_option genInjectivity false in
structure Gh where
 im:Nat->Option V
 mu:Id->Option (Nat × Nat)
noncomputable def Gh.le (g g':Gh):Prop:=(∀ a v,g.im a=some v->g'.im a=some v)/\∀ k p,g.mu k=some p->g'.mu k=some p
theorem Gh.le.rfl {g:Gh}:g.le g:=⟨λ Y Y h=>h,λ Y Y h=>h⟩
theorem Gh.le.trans {a b c:Gh}(x:a.le b)(y:b.le c):a.le c:=⟨λ p v h=>y.1 p v (x.1 p v h),λ k p h=>y.2 k p (x.2 k p h)⟩
noncomputable def VR (g:Gh):V->Value->Prop
 | .none,v=>v = .none
 | .bool b,v=>v = .bool b
 | .int i,v=>∃ t,v = .int i t
 | .str x,v=>∃ t,v = .str x t
 | .tup l,v=>∃ a,v = .ref a/\g.im a=some (.tup l)
 | .lst l,v=>∃ a,v = .ref a/\g.im a=some (.lst l)
 | .ref k,v=>∃ a d,v = .ref a/\g.mu k=some (a,d)
 | .lit w,v=>v=w
 | .rng x y,v=>∃ a,v = .ref a/\g.im a=some (.rng x y)
 | .set b l,v=>∃ a,v = .ref a/\g.im a=some (.set b l)
theorem VR.mono {g g':Gh}(x:g.le g'):∀ {v:V} {w:Value},VR g v w->VR g' v w:=by
 intro v w h
 cases v with
 | tup l=>refine E12 (h) λ a e h=>?_;exact⟨a,e,x.1 _ _ h⟩
 | lst l=>refine E12 (h) λ a e h=>?_;exact⟨a,e,x.1 _ _ h⟩
 | ref k=>refine E22 (h) λ a d e h=>?_;exact⟨a,d,e,x.2 _ _ h⟩
 | rng p q=>refine E12 (h) λ a e h=>?_;exact⟨a,e,x.1 _ _ h⟩
 | set b l=>refine E12 (h) λ a e h=>?_;exact⟨a,e,x.1 _ _ h⟩
 | _=>exact h
theorem refE {g:Gh}{k:Id}{x:Value}{a d:Nat}(vr:VR g (.ref k) x)(e:g.mu k=some (a,d))(C:Value->Prop)(c:C (.ref a)):C x:=by
 obtain⟨a',d',rfl,h⟩:=vr;rw [e]at h;cases h;exact c
inductive VRs (g:Gh):List V->List Value->Prop
 | nil:VRs g [] []
 | cons {x:V} {v:Value} {xs:List V} {vs:List Value}:VR g x v->VRs g xs vs->VRs g (x :: xs) (v :: vs)
theorem VRs.inv0 {g:Gh}{l:List V}{vs:List Value}(h:VRs g l vs):match l with | []=>vs=[] | x :: xs=>∃ v vs',vs=v :: vs'/\VR g x v/\VRs g xs vs':=by
 induction h with
 | nil=>rfl
 | cons a b=>exact⟨_,_,rfl,a,b⟩
theorem VRs.inv {g:Gh}{x:V}{xs:List V}{vs:List Value}(h:VRs g (x :: xs) vs):∃ v vs',vs=v :: vs'/\VR g x v/\VRs g xs vs':=h.inv0
theorem VRs.mono {g g':Gh}(x:g.le g'){l:List V}{vs:List Value}(h:VRs g l vs):VRs g' l vs:=by
 induction h with
 | nil=>exact .nil
 | cons a _ ih=>exact .cons (a.mono x) ih
theorem VRs.length {g:Gh}{l:List V}{vs:List Value}(h:VRs g l vs):l.length=vs.length:=by
 induction h with
 | nil=>rfl
 | cons _ _ ih=>simp [ih]
theorem VRs.append {g:Gh}{l l':List V}{vs vs':List Value}(h:VRs g l vs)(h':VRs g l' vs'):VRs g (l ++ l') (vs ++ vs'):=by
 induction h with
 | nil=>exact h'
 | cons a _ ih=>exact .cons a ih
theorem VRs.get {g:Gh}{l:List V}{vs:List Value}(h:VRs g l vs):∀ {i:Nat} {x:V},l[i]? = some x->∃ v,vs[i]? = some v/\VR g x v:=by
 induction h with
 | nil=>intro i x h;cases h
 | cons a _ ih =>
  intro i x h
  induction i with
  | zero=>cases h;exact⟨_,rfl,a⟩
  | succ i=>exact ih (i:=i) h
theorem VRs.take {g:Gh}{l:List V}{vs:List Value}(h:VRs g l vs):∀ n,VRs g (l.take n) (vs.take n):=by
 induction h with
 | nil=>intro n;simp;exact .nil
 | cons a _ ih=>intro n;induction n with | zero=>exact .nil | succ n=>exact .cons a (ih n)
theorem VRs.drop {g:Gh}{l:List V}{vs:List Value}(h:VRs g l vs):∀ n,VRs g (l.drop n) (vs.drop n):=by
 induction h with
 | nil=>intro n;simp;exact .nil
 | cons a r ih=>intro n;induction n with | zero=>exact .cons a r | succ n=>exact ih n
theorem VRs.snoc {g:Gh}{l:List V}{vs:List Value}{x:V}{v:Value}(h:VRs g l vs)(a:VR g x v):VRs g (l ++ [x]) (vs ++ [v]):=h.append (.cons a .nil)
theorem VRs.set {g:Gh}{l:List V}{vs:List Value}(h:VRs g l vs){x:V}{v:Value}(a:VR g x v):∀ n,VRs g (l.set n x) (vs.set n v):=by
 induction h with
 | nil=>intro n;exact .nil
 | cons b r ih=>intro n;induction n with | zero=>exact .cons a r | succ n=>exact .cons b (ih n)
theorem VRs.reverse {g:Gh}{l:List V}{vs:List Value}(h:VRs g l vs):VRs g l.reverse vs.reverse:=by
 induction h with
 | nil=>exact .nil
 | cons b r ih=>rw [List.reverse_cons,List.reverse_cons];exact ih.snoc b
noncomputable def V.isTup:V->Bool
 | .tup _=>true
 | _=>false
noncomputable def ImO (g:Gh)(h:Heap)(a:Nat):V->Prop
 | .tup l=>∃ items,IsTup h a items/\VRs g l items.toList
 | .lst l=>∃ items,h.PlainList a items/\VRs g l items.toList
 | .rng x y=>∃ t u w,IsRange h a x y 1 t u w
 | .set b l=>∃ es ep t,h.get? a=some { cls:=.type "set",data:=.set es ep t }/\t.ok es.size=true/\(t.plain=true∨l.all V.isTup=true)/\t.led=b/\VRs g l (es.toList.map (·.2))
 | _=>False
theorem ImO.mono {g g':Gh}{h h':Heap}{a:Nat}(x:g.le g')(k:∀ o,h.get? a=some o->h'.get? a=some o):∀ {v:V},ImO g h a v->ImO g' h' a v:=by
 intro v y
 cases v with
 | tup l=>obtain⟨items,⟨o,ho,r⟩,y⟩:=y;exact⟨items,⟨o,k o ho,r⟩,y.mono x⟩
 | lst l=>refine E12 (y) λ items ho y=>?_;exact⟨items,ho.at k,y.mono x⟩
 | rng p q=>refine E31 (y) λ t u w ho=>?_;exact⟨t,u,w,k _ ho⟩
 | set b l=>refine E35 (y) λ es ep t ho h1 h2 h3 h4=>?_;exact⟨es,ep,t,k _ ho,h1,h2,h3,h4.mono x⟩
 | _=>exact y.elim
inductive Ens (P:Params)(g:Gh){K:Type}(hash:K->Int)(is:K->Value->Prop):List (K × V)->List DictEntry->Prop
 | nil:Ens P g hash is [] []
 | cons {k:K} {x:V} {e:DictEntry} {xs:List (K × V)} {es:List DictEntry}:e.hash=hash k->is k e.key->VR g x e.val->Ens P g hash is xs es->Ens P g hash is ((k,x) :: xs) (e :: es)
theorem Ens.mono {P:Params}{g g':Gh}{K:Type}{hash:K->Int}{is is':K->Value->Prop}(x:g.le g')(hi:∀ k v,is k v->is' k v){l:List (K × V)}{es:List DictEntry}(h:Ens P g hash is l es):Ens P g' hash is' l es:=by
 induction h with
 | nil=>exact .nil
 | cons a b c _ ih=>exact .cons a (hi _ _ b) (c.mono x) ih
theorem Ens.length {P:Params}{g:Gh}{K:Type}{hash:K->Int}{is:K->Value->Prop}{l:List (K × V)}{es:List DictEntry}(h:Ens P g hash is l es):l.length=es.length:=by
 induction h with
 | nil=>rfl
 | cons _ _ _ _ ih=>simp [ih]
noncomputable def KA.toV:KA->V
 | .s x=>.str x
 | .i n=>.int n
noncomputable def isI (k:Int)(v:Value):Prop:=∃ t,v = .int k t
noncomputable def isS (k:Str)(v:Value):Prop:=∃ t,v = .str k t
noncomputable def isT (g:Gh)(k:List KA)(v:Value):Prop:=∃ a,v = .ref a/\g.im a=some (.tup (k.map KA.toV))
theorem isT.mono {g g':Gh}(x:g.le g'){k:List KA}{v:Value}(h:isT g k v):isT g' k v:=by refine E12 (h) λ a e h=>?_;exact⟨a,e,x.1 _ _ h⟩
noncomputable def hashA (w:World):KA->Int
 | .s x=>hashStr w x
 | .i n=>hashInt n
noncomputable def hashT (w:World)(k:List KA):Int:=reduceHash (Builtin.Tuple.tupleHashOf (k.map (hashA w)))
noncomputable def MuO (w:World)(g:Gh)(h:Heap)(a d:Nat):MO->Prop
 | .list l=>d=a/\∃ items,h.PlainList a items/\VRs g l items.toList
 | .dI es=>d=a/\(es.map (·.1)).Nodup/\∃ o rs n,h.get? a=some o/\o.ExactDict/\o.data = .dict rs n/\Ens w.params g hashInt isI es rs.toList
 | .dT es=>d=a/\(es.map (·.1)).Nodup/\∃ o rs n,h.get? a=some o/\o.ExactDict/\o.data = .dict rs n/\Ens w.params g (hashT w) (isT g) es rs.toList
 | .inst C fs=>d≠a/\(fs.map (·.1)).Nodup/\h.get? a=some (instObj C d)/\∃ es n,h.get? d=some (dictOf es n)/\Ens w.params g (PyData.keyHash w.params) isS fs es
 | .dF es n=>d=a/\(es.map (·.1)).Nodup/\∃ o rs,h.get? a=some o/\o.ExactDict/\o.data = .dict rs n/\Ens w.params g hashInt isI es rs.toList
 | .vw k=>d=a/\∃ o b,h.get? a=some o/\o.cls = .type "dict_values" /\ o.data = .fields #[.ref b]/\g.mu k=some (b,b)
theorem MuO.mono {w:World}{g g':Gh}{h h':Heap}{a d:Nat}(x:g.le g')(ka:∀ o,h.get? a=some o->h'.get? a=some o)(kd:∀ o,h.get? d=some o->h'.get? d=some o):∀ {o:MO},MuO w g h a d o->MuO w g' h' a d o:=by
 intro o y
 induction o with
 | list l=>obtain⟨e,items,ho,y⟩:=y;exact⟨e,items,ho.at ka,y.mono x⟩
 | dI es=>obtain⟨e,nd,o,rs,n,ho,hx,hd,y⟩:=y;exact⟨e,nd,o,rs,n,ka o ho,hx,hd,y.mono x λ Y Y h=>h⟩
 | dT es=>obtain⟨e,nd,o,rs,n,ho,hx,hd,y⟩:=y;exact⟨e,nd,o,rs,n,ka o ho,hx,hd,y.mono x λ Y Y h=>h.mono x⟩
 | inst C fs=>refine E04 (y) λ e nd ho q7=>?_;obtain⟨es,n,hd,y⟩:=q7;exact⟨e,nd,ka _ ho,es,n,kd _ hd,y.mono x λ Y Y h=>h⟩
 | dF es n=>obtain⟨e,nd,o,rs,ho,hx,hd,y⟩:=y;exact⟨e,nd,o,rs,ka o ho,hx,hd,y.mono x λ Y Y h=>h⟩
 | vw k=>obtain⟨e,q8⟩:=y;refine E24 q8 λ o b ho hc hd y=>?_;clear q8;exact⟨e,o,b,ka o ho,hc,hd,x.2 _ _ y⟩
set_option genInjectivity false in
structure Ctx where
 w:World
 q:Program
 loose:List Str
 mg:Str->Option Value
 mb:Str->Option Value
 base:Heap
 os:OsState
 drawn:Drawn
 kin0:(Kp w.params).In base
 mean:ExcName->Option Value
 topF:Top q loose mean mg mb base
 sys:∃ o,base.get? sysModules=some o
 lvl:Nat
 frs:List Env
@[irreducible] noncomputable def Ctx.K (X:Ctx):Frag:=Kp X.w.params
@[irreducible] noncomputable def Ctx.prog (_:Ctx):Program:=pw
theorem Ctx.kin (X:Ctx):X.K.In X.base:=by unfold Ctx.K;exact X.kin0
theorem Ctx.top (X:Ctx):TopRead X.q X.loose X.mg X.mb X.base:=topRead_of X.topF
structure AOk (X:Ctx)(A:Around)(l:Nat):Prop where
 handled:A.handled=none
 depth:A.depth+4 * l < recursionLimit
 units:A.units+16 * l < cLine
 lid:l<=X.lvl
 top:X.lvl<=l->A.frames=some X.frs
 fr:∃ fs,A.frames=some fs
theorem AOk.room {X:Ctx}{A:Around}{l:Nat}(x:AOk X A l):A.depth < recursionLimit:=aM (aS _ _) x.depth
noncomputable def NameAt (env:Env)(h:Heap)(x:Str)(val:Value):Prop :=
 (env.kindOf x=some .local/\∃ m,h.Ns env.locals m/\m x=some val) ∨
 ((env.kindOf x=some .cell∨env.kindOf x=some .free)/\∃ c,env.cells.lookup x=some c/\h.IsCell c (some val))
noncomputable def Own (R:Nat->Option Obj)(env:Env)(a:Nat):Prop:=a=env.locals∨(R a=none/\∃ x,env.kindOf x=some .cell/\env.cells.lookup x=some a)
structure FrOk (R:Nat->Option Obj)(env:Env)(ρ:Loc)(g:Gh)(h:Heap):Prop where
 kind:env.scope.kind = .function
 glob:env.globals=mainGlobals
 blt:env.builtins=builtinsNs
 ns:∃ m,h.Ns env.locals m
 cell:∀ x,env.kindOf x=some .cell->∃ c v,env.cells.lookup x=some c/\h.IsCell c v
 apart:∀ x y c,env.kindOf x=some .cell->env.cells.lookup x=some c->env.cells.lookup y=some c->R c=none->x=y
 off:∀ x c,env.kindOf x=some .cell->env.cells.lookup x=some c->c≠env.locals
 own:∀ a,Own R env a->R a=none/\g.im a=none/\∀ k p d,g.mu k=some (p,d)->p≠a/\d≠a
 mine:env.func.isSome=true->∀ x c,env.kindOf x=some .cell->env.cells.lookup x=some c->R c=none
 free:∀ x c,env.kindOf x=some .free->env.cells.lookup x=some c->∃ o,R c=some o
 ck:∀ x c,env.cells.lookup x=some c->env.kindOf x=some .cell∨env.kindOf x=some .free
 nodup:(ρ.map (·.1)).Nodup
 vals:∀ p∈ρ,∃ val,NameAt env h p.1 val/\VR g p.2 val
structure Rep (X:Ctx)(R:Nat->Option Obj)(env:Env)(ρ:Loc)(g:Gh)(μ:Mem)(s:Shared):Prop where
 baseR:∀ b o,X.base.get? b=some o->R b=some o
 res:∀ a o,R a=some o->s.heap.get? a=some o
 above:X.base.objs.size<=env.locals
 im:∀ a v,g.im a=some v->ImO g s.heap a v
 imr:∀ a v,g.im a=some v->R a=none∨X.base.get? a≠none
 mu:∀ k o,μ k=some o->∃ a d,g.mu k=some (a,d)/\MuO X.w g s.heap a d o
 dom:∀ k,μ k=none->g.mu k=none
 sep:∀ k k' a d a' d',g.mu k=some (a,d)->g.mu k'=some (a',d')->k≠k'->a≠a'/\a≠d'/\d≠a'/\d≠d'
 off:∀ k a d,g.mu k=some (a,d)->g.im a=none/\g.im d=none/\R a=none/\R d=none
 fr:FrOk R env ρ g s.heap
 gens:s.gens = #[]
 os:s.os=X.os
 drawn:True
section
variable {X:Ctx}{R:Nat->Option Obj}{env:Env}{ρ:Loc}{g:Gh}{μ:Mem}{s:Shared}
theorem Rep.base (r:Rep X R env ρ g μ s):∀ b o,X.base.get? b=some o->s.heap.get? b=some o:=λ b o h=>r.res _ _ (r.baseR _ _ h)
theorem Rep.kin (r:Rep X R env ρ g μ s):X.K.In s.heap:=X.kin.keeps r.base
theorem Rep.top (r:Rep X R env ρ g μ s):TopRead X.q X.loose X.mg X.mb s.heap:=X.top.keeps r.base
theorem Rep.lt_R (r:Rep X R env ρ g μ s){a:Nat}{o:Obj}(h:R a=some o):a < s.heap.objs.size:=aO (r.res _ _ h)
theorem ImO.lt {g:Gh}{h:Heap}{a:Nat}{v:V}(x:ImO g h a v):a < h.objs.size:=by
 cases v with
 | tup l=>obtain⟨_,⟨o,ho,_⟩,_⟩:=x;exact aO ho
 | lst l=>obtain⟨_,⟨_,ho⟩,_⟩:=x;exact aO ho
 | rng p q=>refine E31 (x) λ _ _ _ ho=>?_;exact aO ho
 | set b l=>refine E32 (x) λ _ _ _ ho _=>?_;exact aO ho
 | _=>exact x.elim
theorem MuO.lt {w:World}{g:Gh}{h:Heap}{a d:Nat}{o:MO}(x:MuO w g h a d o):a < h.objs.size/\d < h.objs.size:=by
 induction o with
 | list l=>obtain⟨e,_,⟨_,ho⟩,_⟩:=x;exact⟨aO ho,e▸aO ho⟩
 | dI l=>refine E03 (x) λ e _ q7=>?_;obtain⟨o,_,_,ho,_⟩:=q7;exact⟨aO ho,e▸aO ho⟩
 | dT l=>refine E03 (x) λ e _ q7=>?_;obtain⟨o,_,_,ho,_⟩:=q7;exact⟨aO ho,e▸aO ho⟩
 | inst C fs=>refine E04 (x) λ _ _ ho q7=>?_;obtain⟨_,_,hd,_⟩:=q7;exact⟨aO ho,aO hd⟩
 | dF es n=>obtain⟨rfl,_,o,_,ho,_⟩:=x;exact⟨aO ho,aO ho⟩
 | vw k=>obtain⟨rfl,q8⟩:=x;refine E22 q8 λ o _ ho _=>?_;clear q8;exact⟨aO ho,aO ho⟩
theorem Rep.mu_of (r:Rep X R env ρ g μ s){k:Id}{p:Nat × Nat}(h:g.mu k=some p):∃ o,μ k=some o/\MuO X.w g s.heap p.1 p.2 o:=by
 induction hm:μ k with
 | none=>rw [r.dom k hm]at h;cases h
 | some o=>refine E22 (r.mu k o hm) λ a d e y=>?_;rw [h]at e;cases e;exact⟨o,rfl,y⟩
theorem Rep.mu_lt (r:Rep X R env ρ g μ s){k:Id}{a d:Nat}(h:g.mu k=some (a,d)):a < s.heap.objs.size/\d < s.heap.objs.size:=by
 refine E12 (r.mu_of h) λ o _ y=>?_;exact y.lt
theorem Rep.im_lt (r:Rep X R env ρ g μ s){a:Nat}{v:V}(h:g.im a=some v):a < s.heap.objs.size:=(r.im a v h).lt
theorem NameAt.keep {env:Env}{h h':Heap}{x:Str}{val:Value}(y:NameAt env h x val)(kl:∀ m,h.Ns env.locals m->h'.Ns env.locals m)
  (kc:∀ x c o,(env.kindOf x=some .cell∨env.kindOf x=some .free)->env.cells.lookup x=some c->h.get? c=some o->h'.get? c=some o):NameAt env h' x val:=by
 rcases y with ⟨e,m,hm,e'⟩ | ⟨e,c,hc,o,ho,hd⟩
 ·exact .inl ⟨e,m,kl m hm,e'⟩
 ·exact .inr ⟨e,c,hc,o,kc x c o e hc ho,hd⟩
theorem zeX {h h':Heap}{L:Nat}(k:∀ o,h.get? L=some o->h'.get? L=some o)(m:Str->Option Value)(x:h.Ns L m):h'.Ns L m:=by
 refine E32 (x) λ o es ep ho r=>?_;exact⟨o,es,ep,k o ho,r⟩
theorem FrOk.keep {h h':Heap}{g':Gh}(f:FrOk R env ρ g h)(hg:g.le g')(hr:∀ a o,R a=some o->h'.get? a=some o)(hr0:∀ a o,R a=some o->h.get? a=some o)
  (kl:∀ m,h.Ns env.locals m->h'.Ns env.locals m) (kc:∀ x c o,env.kindOf x=some .cell->env.cells.lookup x=some c->R c=none->h.get? c=some o->h'.get? c=some o)
  (no:∀ a,Own R env a->g'.im a=none/\∀ k p d,g'.mu k=some (p,d)->p≠a/\d≠a):FrOk R env ρ g' h':=by
 have kc':∀ x c o,env.kindOf x=some .cell->env.cells.lookup x=some c->h.get? c=some o->h'.get? c=some o:=λ x c o e hc ho=>by
  induction hR:R c with
  | none=>exact kc x c o e hc hR ho
  | some o' =>
   have e1:=hr0 _ _ hR
   rw [ho]at e1;cases e1
   exact hr _ _ hR
 refine⟨f.kind,f.glob,f.blt,?_,λ x e=>?_,f.apart,f.off,λ a ha=>⟨(f.own a ha).1,no a ha⟩,f.mine,f.free,f.ck,f.nodup,λ p hp=>?_⟩
 ·obtain⟨m,hm⟩:=f.ns;exact⟨m,kl m hm⟩
 ·refine E22 (f.cell x e) λ c v hc q7=>?_;obtain⟨o,ho,r⟩:=q7;exact⟨c,v,hc,o,kc' x c o e hc ho,r⟩
 ·refine E12 (f.vals p hp) λ val y v=>?_
  refine⟨val,y.keep kl λ x c o e hc ho=>?_,v.mono hg⟩
  rcases e with e | e
  ·exact kc' x c o e hc ho
  ·obtain⟨o',hR⟩:=f.free x c e hc
   have e1:=hr0 _ _ hR
   rw [ho]at e1;cases e1
   exact hr _ _ hR
theorem FrOk.keep' {h h':Heap}{g':Gh}(f:FrOk R env ρ g h)(hg:g.le g')(hr:∀ a o,R a=some o->h'.get? a=some o)(hr0:∀ a o,R a=some o->h.get? a=some o)
  (ko:∀ a o,Own R env a->h.get? a=some o->h'.get? a=some o) (no:∀ a,Own R env a->g'.im a=none/\∀ k p d,g'.mu k=some (p,d)->p≠a/\d≠a):FrOk R env ρ g' h' :=
 f.keep hg hr hr0 (zeX λ o ho=>ko _ o (.inl rfl) ho) (λ x c o e hc hR ho=>ko c o (.inr ⟨hR,x,e,hc⟩) ho) no
theorem Rep.own_lt (r:Rep X R env ρ g μ s){a:Nat}(ha:Own R env a):a < s.heap.objs.size:=by
 rcases ha with rfl | ⟨_,x,e,hx⟩
 ·refine E42 (r.fr.ns) λ m o es ep ho _=>?_;exact aO ho
 ·refine E22 (r.fr.cell x e) λ c v hc q7=>?_;obtain⟨o,ho,_⟩:=q7
  rw [hx]at hc;cases hc;exact aO ho
theorem Rep.keepAll (r:Rep X R env ρ g μ s){s':Shared}(k:∀ a o,s.heap.get? a=some o->s'.heap.get? a=some o)(hg:s'.gens=s.gens)(ho:s'.os=s.os)(hd:s'.drawn=s.drawn):Rep X R env ρ g μ s' where
 baseR:=r.baseR
 res a o h:=k _ _ (r.res a o h)
 above:=r.above
 im a v h:=(r.im a v h).mono .rfl (k a)
 imr:=r.imr
 mu i o h:=by refine E22 (r.mu i o h) λ a d e y=>?_;exact⟨a,d,e,y.mono .rfl (k a) (k d)⟩
 dom:=r.dom
 sep:=r.sep
 off:=r.off
 fr:=r.fr.keep' .rfl (λ a o h=>k _ _ (r.res a o h)) r.res (λ a o Y h=>k a o h) λ a ha=>(r.fr.own a ha).2
 gens:=hg.trans r.gens
 os:=ho.trans r.os
 drawn:=trivial
noncomputable def Gh.newIm (g:Gh)(n:Nat)(v:V):Gh:={ g with im:=λ a=>if a=n then some v else g.im a }
noncomputable def Gh.newMu (g:Gh)(k:Id)(p:Nat × Nat):Gh:={ g with mu:=λ j=>if j=k then some p else g.mu j }
theorem Rep.le_newIm (_:Rep X R env ρ g μ s){n:Nat}{v:V}(h:g.im n=none):g.le (g.newIm n v):=by
 refine⟨λ a w e=>?_,λ Y Y e=>e⟩
 unfold Gh.newIm;dsimp only;rw [aw]
 ·exact e
 ·rintro rfl;rw [h]at e;cases e
theorem Rep.im_none (r:Rep X R env ρ g μ s){n:Nat}(h:s.heap.objs.size<=n):g.im n=none:=by
 induction e:g.im n with
 | none=>rfl
 | some v=>exact absurd (r.im_lt e) (Nat.not_lt.mpr h)
theorem Rep.R_none (r:Rep X R env ρ g μ s){n:Nat}(h:s.heap.objs.size<=n):R n=none:=by
 induction e:R n with
 | none=>rfl
 | some v=>exact absurd (r.lt_R e) (Nat.not_lt.mpr h)
theorem Rep.newIm (r:Rep X R env ρ g μ s){s':Shared}{n:Nat}{v:V}(hn:s.heap.objs.size<=n)(k:∀ a o,s.heap.get? a=some o->s'.heap.get? a=some o)(y:ImO g s'.heap n v)
  (hg:s'.gens=s.gens) (ho:s'.os=s.os) (hd:s'.drawn=s.drawn):g.le (g.newIm n v)/\Rep X R env ρ (g.newIm n v) μ s':=by
 have r':=r.keepAll k hg ho hd
 have e0:=r.im_none hn
 have l:=r.le_newIm (v:=v) e0
 refine⟨l,r'.baseR,r'.res,r'.above,λ a w e=>?_,λ a w e=>?_,λ i o h=>?_,r'.dom,r'.sep,λ i a d e=>?_,?_,r'.gens,r'.os,r'.drawn⟩
 ·by_cases ha:a=n
  ·subst ha
   simp only [Gh.newIm,if_true]at e
   cases e
   exact y.mono l λ Y h=>h
  ·simp only [Gh.newIm,aw ha]at e
   exact(r'.im a w e).mono l λ Y h=>h
 ·by_cases ha:a=n
  ·subst ha;exact .inl (r.R_none hn)
  ·simp only [Gh.newIm,aw ha]at e;exact r.imr a w e
 ·refine E22 (r'.mu i o h) λ a d e z=>?_
  exact⟨a,d,e,z.mono l (λ Y h=>h) λ Y h=>h⟩
 ·have lt:=r.mu_lt (k:=i) (a:=a) (d:=d) e
  refine E04 (r.off i a d e) λ h1 h2 h3 h4=>?_
  refine⟨?_,?_,h3,h4⟩
  ·simp only [Gh.newIm];rw [aw (by exact aF (au (And.left ‹_›) ‹_›))];exact h1
  ·simp only [Gh.newIm];rw [aw (by exact aF (au (And.right ‹_›) ‹_›))];exact h2
 ·refine r'.fr.keep' l r'.res r'.res (λ Y Y Y h=>h) λ a ha=>⟨?_,(r.fr.own a ha).2.2⟩
  have lt:=r.own_lt ha
  simp only [Gh.newIm];rw [aw (by exact aF (nT ‹_› ‹_›))];exact(r.fr.own a ha).2.1
theorem Rep.newMu (r:Rep X R env ρ g μ s){s':Shared}{i:Id}{o:MO}{a d:Nat}(hi:μ i=none)(hn:s.heap.objs.size<=a/\s.heap.objs.size<=d)(k:∀ a o,s.heap.get? a=some o->s'.heap.get? a=some o)(y:MuO X.w g s'.heap a d o)
  (hg:s'.gens=s.gens) (ho:s'.os=s.os) (hd:s'.drawn=s.drawn):g.le (g.newMu i (a,d))/\Rep X R env ρ (g.newMu i (a,d)) (μ.set i o) s':=by
 have r':=r.keepAll k hg ho hd
 have e0:=r.dom i hi
 have l:g.le (g.newMu i (a,d)):=by
  refine⟨λ Y Y e=>e,λ j p e=>?_⟩
  unfold Gh.newMu;dsimp only;rw [aw]
  ·exact e
  ·rintro rfl;rw [e0]at e;cases e
 have inv:∀ j p,(g.newMu i (a,d)).mu j=some p->(j=i/\p=(a,d))∨(j≠i/\g.mu j=some p):=λ j p e=>by
  by_cases h:j=i
  ·subst h;simp only [Gh.newMu,if_true]at e;cases e;exact .inl ⟨rfl,rfl⟩
  ·simp only [Gh.newMu,aw h]at e;exact .inr ⟨h,e⟩
 refine⟨l,r'.baseR,r'.res,r'.above,λ b w e=>(r'.im b w e).mono l λ Y h=>h,r'.imr,λ j o' h=>?_,λ j h=>?_,λ j j' b e b' e' h h' hne=>?_,λ j b e h=>?_,?_,r'.gens,r'.os,r'.drawn⟩
 ·by_cases hj:j=i
  ·subst hj
   simp only [Mem.set,if_true]at h
   cases h
   exact⟨a,d,by simp [Gh.newMu],y.mono l (λ Y h=>h) λ Y h=>h⟩
  ·simp only [Mem.set,aw hj]at h
   refine E22 (r'.mu j o' h) λ b e e1 z=>?_
   exact⟨b,e,l.2 _ _ e1,z.mono l (λ Y h=>h) λ Y h=>h⟩
 ·by_cases hj:j=i
  ·subst hj;simp [Mem.set]at h
  ·simp only [Mem.set,aw hj]at h
   simp only [Gh.newMu,aw hj];exact r.dom j h
 ·rcases inv _ _ h with ⟨rfl,q⟩ | ⟨n1,q⟩ <;> rcases inv _ _ h' with ⟨rfl,q'⟩ | ⟨n2,q'⟩
  ·exact absurd rfl hne
  ·cases q;have:=r.mu_lt q';refine⟨?_,?_,?_,?_⟩ <;> (first | lia | omega)
  ·cases q';have:=r.mu_lt q;refine⟨?_,?_,?_,?_⟩ <;> (first | lia | exact aF (au (And.left ‹_›) (And.left ‹_›)) | omega)
  ·exact r.sep _ _ _ _ _ _ q q' hne
 ·rcases inv _ _ h with ⟨rfl,q⟩ | ⟨n1,q⟩
  ·cases q;exact⟨r.im_none hn.1,r.im_none hn.2,r.R_none hn.1,r.R_none hn.2⟩
  ·exact r.off _ _ _ q
 ·refine r'.fr.keep' l r'.res r'.res (λ Y Y Y h=>h) λ b hb=>⟨(r.fr.own b hb).2.1,λ j p e h=>?_⟩
  have lt:=r.own_lt hb
  rcases inv _ _ h with ⟨rfl,q⟩ | ⟨n1,q⟩
  ·cases q;constructor <;> (first | lia | omega)
  ·exact(r.fr.own b hb).2.2 j p e q
theorem Rep.updMu (r:Rep X R env ρ g μ s){s':Shared}{i:Id}{o:MO}{a d:Nat}(hi:g.mu i=some (a,d))(k:∀ b o,b≠d->b≠env.locals->s.heap.get? b=some o->s'.heap.get? b=some o)(kl:∀ m,s.heap.Ns env.locals m->s'.heap.Ns env.locals m)(y:MuO X.w g s'.heap a d o)
  (hg:s'.gens=s.gens) (ho:s'.os=s.os) (hd:s'.drawn=s.drawn):Rep X R env ρ g (μ.set i o) s':=by
 refine E04 (r.off i a d hi) λ o1 o2 o3 o4=>?_
 have oL:=r.fr.own env.locals (.inl rfl)
 have kR:∀ b o,R b=some o->s'.heap.get? b=some o:=λ b o h=>k b o (by rintro rfl;rw [o4]at h;cases h) (by rintro rfl;rw [oL.1]at h;cases h) (r.res b o h)
 refine⟨r.baseR,kR,r.above,λ b w e=>?_,r.imr,λ j o' h=>?_,λ j h=>?_,r.sep,r.off,?_,hg.trans r.gens,ho.trans r.os,trivial⟩
 ·have ne:b≠d:=by rintro rfl;rw [o2]at e;cases e
  have nL:b≠env.locals:=by rintro rfl;rw [oL.2.1]at e;cases e
  exact(r.im b w e).mono .rfl λ o' h=>k b o' ne nL h
 ·by_cases hj:j=i
  ·subst hj
   simp only [Mem.set,if_true]at h
   cases h
   exact⟨a,d,hi,y⟩
  ·simp only [Mem.set,aw hj]at h
   refine E22 (r.mu j o' h) λ b e e1 z=>?_
   refine E04 (r.sep _ _ _ _ _ _ e1 hi hj) λ _ q1 _ q2=>?_
   obtain⟨n1,n2⟩:=oL.2.2 j b e e1
   exact⟨b,e,e1,z.mono .rfl (λ o h=>k b o q1 n1 h) λ o h=>k e o q2 n2 h⟩
 ·by_cases hj:j=i
  ·subst hj;simp [Mem.set]at h
  ·simp only [Mem.set,aw hj]at h;exact r.dom j h
 ·refine r.fr.keep .rfl kR r.res kl (λ x c o e hc hR h=>k c o ?_ (r.fr.off x c e hc) h) λ b hb=>(r.fr.own b hb).2
  exact λ e'=>((r.fr.own c (.inr ⟨hR,x,e,hc⟩)).2.2 i a d hi).2 e'.symm
end
inductive TPst (X:Ctx)(R:Nat->Option Obj)(env:Env)(ρ:Loc)(g:Gh){α:Type}(Q:Gh->α->Mem->Prop)(a:α)(s':Shared):Prop
 | mk (g':Gh) (dl:Mem) (le:g.le g') (r:Rep X R env ρ g' dl s') (q:Q g' a dl):TPst X R env ρ g Q a s'
inductive VPst (Q:V->Mem->Prop)(g':Gh)(v:Value)(dl:Mem):Prop
 | mk (x:V) (vr:VR g' x v) (q:Q x dl):VPst Q g' v dl
inductive VsPst (Q:List V->Mem->Prop)(g':Gh)(vs:List Value)(dl:Mem):Prop
 | mk (xs:List V) (vr:VRs g' xs vs) (q:Q xs dl):VsPst Q g' vs dl
noncomputable def Tr (X:Ctx)(l:Nat)(R:Nat->Option Obj)(env:Env)(ρ:Loc)(g:Gh)(μ:Mem){α:Type}(t:Sem α)(Q:Gh->α->Mem->Prop):Prop :=
 ∀ A s,AOk X A l->Rep X R env ρ g μ s->wpAny (model X.prog X.w) A t (TPst X R env ρ g Q) (λ Y Y=>False) s
noncomputable def W (X:Ctx)(l:Nat)(R:Nat->Option Obj)(env:Env)(ρ:Loc)(μ:Mem)(e:Expr)(Q:V->Mem->Prop):Prop :=
 ∀ g,Tr X l R env ρ g μ (eval e env) (VPst Q)
noncomputable def WB (X:Ctx)(l:Nat)(R:Nat->Option Obj)(env:Env)(ρ:Loc)(μ:Mem)(e:Expr)(Q:Bool->Mem->Prop):Prop :=
 ∀ g,Tr X l R env ρ g μ (isTrue e env (eval e env)) λ Y b dl=>Q b dl
noncomputable def WL (X:Ctx)(l:Nat)(R:Nat->Option Obj)(env:Env)(ρ:Loc)(μ:Mem)(es:List Expr)(Q:List V->Mem->Prop):Prop :=
 ∀ g pos,Tr X l R env ρ g μ (spliced (backTo pos (starEach es env))) (VsPst Q)
noncomputable def P1 (X:Ctx)(l:Nat)(R:Nat->Option Obj)(env:Env)(ρ:Loc)(μ:Mem)(t:Value->Sem Value)(x:V)(Q:V->Mem->Prop):Prop :=
 ∀ g v,VR g x v->Tr X l R env ρ g μ (t v) (VPst Q)
noncomputable def P2 (X:Ctx)(l:Nat)(R:Nat->Option Obj)(env:Env)(ρ:Loc)(μ:Mem)(t:Value->Value->Sem Value)(x y:V)(Q:V->Mem->Prop):Prop :=
 ∀ g v u,VR g x v->VR g y u->Tr X l R env ρ g μ (t v u) (VPst Q)
noncomputable def PB (X:Ctx)(l:Nat)(R:Nat->Option Obj)(env:Env)(ρ:Loc)(μ:Mem)(x:V)(Q:Bool->Mem->Prop):Prop :=
 ∀ g v,VR g x v->Tr X l R env ρ g μ (truthy v) λ Y b dl=>Q b dl
noncomputable abbrev K2 (X:Ctx)(l:Nat)(R:Nat->Option Obj)(env:Env)(ρ:Loc)(e:Expr)(t:Value->Value->Sem Value)(Q:V->Mem->Prop):V->Mem->Prop:=λ x dp=>W X l R env ρ dp e λ y dt=>P2 X l R env ρ dt t x y Q
noncomputable abbrev KB (X:Ctx)(l:Nat)(R:Nat->Option Obj)(env:Env)(ρ:Loc)(Q:Bool->Mem->Prop):V->Mem->Prop:=λ x dl=>PB X l R env ρ dl x Q
noncomputable abbrev KL (X:Ctx)(l:Nat)(R:Nat->Option Obj)(env:Env)(ρ:Loc)(es:List Expr)(Q:List V->Mem->Prop):V->Mem->Prop:=λ x dp=>WL X l R env ρ dp es λ xs dt=>Q (x :: xs) dt
section
variable {X:Ctx}{l:Nat}{R:Nat->Option Obj}{env:Env}{ρ:Loc}{g:Gh}{μ:Mem}{α β:Type}
theorem TPst.up {du:Gh}{Q:Gh->α->Mem->Prop}{a:α}{s':Shared}(h:TPst X R env ρ du Q a s')(le:g.le du):TPst X R env ρ g Q a s':=by
 obtain⟨g',dl,le',r,q⟩:=h
 exact⟨g',dl,le.trans le',r,q⟩
theorem Tr.pure {a:α}{Q:Gh->α->Mem->Prop}(h:Q g a μ):Tr X l R env ρ g μ (Pure.pure a) Q:=λ Y Y Y r=>ai ⟨g,μ,.rfl,r,h⟩
theorem Tr.mono {t:Sem α}{Q Q':Gh->α->Mem->Prop}(h:Tr X l R env ρ g μ t Q)(hQ:∀ g' a dl,g.le g'->Q g' a dl->Q' g' a dl):Tr X l R env ρ g μ t Q' :=
 λ A s a r=>am (h A s a r) (λ Y Y q9=>by obtain⟨g',dl,le,r',q⟩:=q9;exact⟨g',dl,le,r',hQ _ _ _ le q⟩) λ Y Y e=>e
theorem Tr.bind {m:Sem α}{f:α->Sem β}{Q:Gh->β->Mem->Prop}(h:Tr X l R env ρ g μ m λ g' a dl=>Tr X l R env ρ g' dl (f a) Q):Tr X l R env ρ g μ (m >>= f) Q :=
 λ A s a r=>ag (am (h A s a r) (λ Y s' q9=>by obtain⟨g',dl,le,r',q⟩:=q9;exact am (q A s' a r') (λ Y Y hh=>hh.up le) λ Y Y e=>e) λ Y Y e=>e)
theorem Tr.holding {vs:List Value}{t:Sem α}{Q:Gh->α->Mem->Prop}(h:Tr X l R env ρ g μ t Q):Tr X l R env ρ g μ (PySem.holding vs t) Q:=λ A s a r=>aP (h A s a r)
theorem W.mono {e:Expr}{Q Q':V->Mem->Prop}(h:W X l R env ρ μ e Q)(hQ:∀ x dl,Q x dl->Q' x dl):W X l R env ρ μ e Q' :=
 λ g=>(h g).mono λ Y Y Y Y q9=>by obtain⟨x,v,q⟩:=q9;exact⟨x,v,hQ _ _ q⟩
theorem WB.mono {e:Expr}{Q Q':Bool->Mem->Prop}(h:WB X l R env ρ μ e Q)(hQ:∀ x dl,Q x dl->Q' x dl):WB X l R env ρ μ e Q' :=
 λ g=>(h g).mono λ Y Y Y Y q=>hQ _ _ q
theorem zag {s:Shared}(r:Rep X R env ρ g μ s)(n:Nat):Rep X R env ρ g μ { s with toks:=n }:=r.keepAll (λ Y Y h=>h) rfl rfl rfl
inductive Lk:Loc->Str->V->Prop
 | here {x:Str} {v:V} {ρ:Loc}:Lk ((x,v) :: ρ) x v
 | there {x y:Str} {v w:V} {ρ:Loc}:Lk ρ x v->Lk ((y,w) :: ρ) x v
theorem Lk.inv0 {ρ:Loc}{x:Str}{v:V}(h:Lk ρ x v):match ρ with | []=>False | p :: t=>(x=p.1/\v=p.2)∨Lk t x v:=by
 induction h with
 | here=>exact .inl ⟨rfl,rfl⟩
 | there h _=>exact .inr h
theorem Lk.mem {ρ:Loc}{x:Str}{v:V}(h:Lk ρ x v):(x,v)∈ρ:=by
 induction h with
 | here=>exact .head _
 | there _ ih=>exact .tail _ ih
theorem W.name {x:Str}{pos:Pos}{v:V}{Q:V->Mem->Prop}(hx:Lk ρ x v)(h:Q v μ)(hd:(x == ("__debug__":Str))=false:=by decide)(hc:(x == ("__classdict__":Str))=false:=by decide) :
  W X l R env ρ μ (.Name x pos) Q:=by
 intro g A s a r
 refine E12 (r.fr.vals _ hx.mem) λ val y vr=>?_
 refine wpAny_Name ?_ hd
 rcases y with ⟨e,m,hm,e'⟩ | ⟨e | e,c,hc',ho⟩
 ·exact wpAny_loadName_local r.fr.kind e hm e' ⟨g,μ,.rfl,r,v,vr,h⟩
 ·exact wpAny_loadName_cell r.fr.kind e hc' ho ⟨g,μ,.rfl,r,v,vr,h⟩
 ·exact wpAny_loadName_free r.fr.kind e hc' ho ⟨g,μ,.rfl,r,v,vr,h⟩ hc
theorem W.global {x:Str}{pos:Pos}{v:Value}{Q:V->Mem->Prop}(hk:env.kindOf x=some .globalImplicit)(hx:nsIn X.K mainGlobals x=some (some v))(h:Q (.lit v) μ)(hd:(x == ("__debug__":Str))=false:=by decide) :
  W X l R env ρ μ (.Name x pos) Q:=by
 intro g A s a r
 refine Name_function_global r.fr.kind hk (loadGlobal_global (mg:=X.mg) ?_ (mg_of X.kin X.top.g hx) ⟨g,μ,.rfl,r,.lit v,rfl,h⟩) hd
 rw [r.fr.glob];exact r.top.g
theorem W.builtin {x:Str}{pos:Pos}{v:Value}{Q:V->Mem->Prop}(hk:env.kindOf x=some .globalImplicit)(hx:nsIn X.K mainGlobals x=some none)(hv:bootBuiltins x=some v)(h:Q (.lit v) μ)
  (hd:(x == ("__debug__":Str))=false:=by decide) (hn:x ≠ "__name__":=by decide):W X l R env ρ μ (.Name x pos) Q:=by
 intro g A s a r
 refine Name_function_global r.fr.kind hk (loadGlobal_builtin (mg:=X.mg) (mb:=X.mb) ?_ (mg_none_of X.kin X.top.g hx) ?_ ((X.top.builtins x hn).trans hv) ⟨g,μ,.rfl,r,.lit v,rfl,h⟩) hd
 ·rw [r.fr.glob];exact r.top.g
 ·rw [r.fr.blt];exact r.top.b
theorem W.cint {i:Int}{k:Nat}{pos:Pos}{Q:V->Mem->Prop}(h:Q (.int i) μ):W X l R env ρ μ (.Constant (.int i) k pos) Q :=
 λ g A s a r=>wpAny_Constant_int ⟨g,μ,.rfl,zag r _,.int i,⟨_,rfl⟩,h⟩
theorem W.cstr {x:Str}{k:Nat}{pos:Pos}{Q:V->Mem->Prop}(h:Q (.str x) μ):W X l R env ρ μ (.Constant (.str x) k pos) Q :=
 λ g A s a r=>wpAny_Constant_str ⟨g,μ,.rfl,zag r _,.str x,⟨_,rfl⟩,h⟩
theorem W.cbool {b:Bool}{k:Nat}{pos:Pos}{Q:V->Mem->Prop}(h:Q (.bool b) μ):W X l R env ρ μ (.Constant (.bool b) k pos) Q :=
 λ g A s a r=>ai ⟨g,μ,.rfl,r,.bool b,rfl,h⟩
theorem W.cnone {k:Nat}{pos:Pos}{Q:V->Mem->Prop}(h:Q .none μ):W X l R env ρ μ (.Constant .none k pos) Q :=
 λ g A s a r=>ai ⟨g,μ,.rfl,r,.none,rfl,h⟩
theorem W.binop {d7 dY:Expr}{op:Operator}{pos:Pos}{Q:V->Mem->Prop}(h:W X l R env ρ μ d7 (K2 X l R env ρ dY (binaryOp op) Q)) :
  W X l R env ρ μ (.BinOp d7 op dY pos) Q:=by
 intro g A s a r
 refine wpAny_BinOp (am (h g A s a r) (λ v dr hh=>?_) λ Y Y e=>e)
 obtain⟨du,dp,dy,dz,x,vx,dw⟩:=hh
 refine am (dw du A dr a dz) (λ u dq hh=>?_) λ Y Y e=>e
 obtain⟨dC,dt,dB,dv,y,vy,dJ⟩:=hh
 exact am (dJ dC v u (vx.mono dB) vy A dq a dv) (λ Y Y hh=>hh.up (dy.trans dB)) λ Y Y e=>e
theorem W.cmp {d7 dY:Expr}{op:CmpOp}{pos:Pos}{Q:V->Mem->Prop}(h:W X l R env ρ μ d7 (K2 X l R env ρ dY (compareOp op) Q))
  (hb:false=behindInMarks op dY:=by exact rfl):W X l R env ρ μ (.Compare d7 [op] [dY] pos) Q:=by
 intro g A s a r
 refine wpAny_Compare1 (am (h g A s a r) (λ v dr hh=>?_) λ Y Y e=>e) hb.symm
 obtain⟨du,dp,dy,dz,x,vx,dw⟩:=hh
 refine am (dw du A dr a dz) (λ u dq hh=>?_) λ Y Y e=>e
 obtain⟨dC,dt,dB,dv,y,vy,dJ⟩:=hh
 exact am (dJ dC v u (vx.mono dB) vy A dq a dv) (λ Y Y hh=>hh.up (dy.trans dB)) λ Y Y e=>e
theorem W.unop {e:Expr}{op:UnaryOp}{pos:Pos}{Q:V->Mem->Prop}(h:W X l R env ρ μ e λ x dp=>P1 X l R env ρ dp (unaryOp op) x Q):W X l R env ρ μ (.UnaryOp op e pos) Q:=by
 intro g A s a r
 refine wpAny_UnaryOp (am (h g A s a r) (λ v dr hh=>?_) λ Y Y e=>e)
 obtain⟨du,dp,dy,dz,x,vx,dw⟩:=hh
 exact am (dw du v vx A dr a dz) (λ Y Y hh=>hh.up dy) λ Y Y e=>e
theorem PB.bool {b:Bool}{Q:Bool->Mem->Prop}(h:Q b μ):PB X l R env ρ μ (.bool b) Q:=λ g v vr A s a r=>by
 cases vr;exact wpAny_truthy_bool ⟨g,μ,.rfl,r,h⟩
theorem WB.plain {e:Expr}{Q:Bool->Mem->Prop}(h:W X l R env ρ μ e (KB X l R env ρ Q))
  (he:∀ env whole,isTrue e env whole=(do let v <- whole;standAt e.pos;PySem.holding [v] (truthy v)):=by intros;rfl):WB X l R env ρ μ e Q:=by
 intro g A s a r
 refine isTrue_plain (am (h g A s a r) (λ v dr hh=>?_) λ Y Y e=>e) (he _ _)
 obtain⟨du,dp,dy,dz,x,vx,dw⟩:=hh
 exact am (dw du v vx A dr a dz) (λ Y Y hh=>hh.up dy) λ Y Y e=>e
theorem WB.not {e:Expr}{pos:Pos}{Q:Bool->Mem->Prop}(h:WB X l R env ρ μ e λ b dl=>Q (!b) dl):WB X l R env ρ μ (.UnaryOp .Not e pos) Q :=
 λ g A s a r=>isTrue_not (am (h g A s a r) (λ Y Y q9=>by obtain⟨g',dl,le,r',q⟩:=q9;exact⟨g',dl,le,r',q⟩) λ Y Y e=>e)
theorem WB.cmp {d7 dY:Expr}{op:CmpOp}{pos:Pos}{Q:Bool->Mem->Prop}(h:W X l R env ρ μ d7 (K2 X l R env ρ dY (compareOp op) (KB X l R env ρ Q)))
  (hb:false=behindInMarks op dY:=by exact rfl):WB X l R env ρ μ (.Compare d7 [op] [dY] pos) Q:=by
 intro g A s a r
 refine wpAny_isTrue_Compare1 (am (h g A s a r) (λ v dr hh=>?_) λ Y Y e=>e) hb.symm
 obtain⟨du,dp,dy,dz,x,vx,dw⟩:=hh
 refine am (dw du A dr a dz) (λ u dq hh=>?_) λ Y Y e=>e
 obtain⟨dC,dt,dB,dv,y,vy,dJ⟩:=hh
 refine am (dJ dC v u (vx.mono dB) vy A dq a dv) (λ w d6 hh=>?_) λ Y Y e=>e
 obtain⟨d8,dK,dU,dS,z,vz,eJ⟩:=hh
 exact am (eJ d8 w vz A d6 a dS) (λ Y Y hh=>hh.up ((dy.trans dB).trans dU)) λ Y Y e=>e
noncomputable abbrev KAnd (X:Ctx)(l:Nat)(R:Nat->Option Obj)(env:Env)(ρ:Loc)(e:Expr)(Q:Bool->Mem->Prop):Bool->Mem->Prop:=λ b dp=>(b=true->WB X l R env ρ dp e Q)/\(b=false->Q false dp)
noncomputable abbrev KOr (X:Ctx)(l:Nat)(R:Nat->Option Obj)(env:Env)(ρ:Loc)(e:Expr)(Q:Bool->Mem->Prop):Bool->Mem->Prop:=λ b dp=>(b=false->WB X l R env ρ dp e Q)/\(b=true->Q true dp)
noncomputable abbrev KIte (X:Ctx)(l:Nat)(R:Nat->Option Obj)(env:Env)(ρ:Loc)(b o:Expr)(Q:V->Mem->Prop):Bool->Mem->Prop:=λ c dp=>(c=true->W X l R env ρ dp b Q)/\(c=false->W X l R env ρ dp o Q)
noncomputable abbrev KA2 (X:Ctx)(l:Nat)(R:Nat->Option Obj)(env:Env)(ρ:Loc)(e:Expr)(Q:V->Mem->Prop):V->Mem->Prop:=λ x dp=>PB X l R env ρ dp x λ b dt=>(b=true->W X l R env ρ dt e Q)/\(b=false->Q x dt)
theorem WB.and {e:Expr}{es:List Expr}{pos:Pos}{Q:Bool->Mem->Prop}(h:WB X l R env ρ μ e (KAnd X l R env ρ (.BoolOp .And es pos) Q)):WB X l R env ρ μ (.BoolOp .And (e :: es) pos) Q:=by
 intro g A s a r
 refine isTrue_and ?_
 refine am (h g A s a r) (λ b dr hh=>?_) λ Y Y e=>e
 obtain⟨du,dp,dy,dz,dw,dJ⟩:=hh
 induction b with
 | true=>exact am (dw rfl du A dr a dz) (λ Y Y hh=>hh.up dy) λ Y Y e=>e
 | false=>exact⟨du,dp,dy,dz,dJ rfl⟩
theorem WB.andNil {pos:Pos}{Q:Bool->Mem->Prop}(h:Q true μ):WB X l R env ρ μ (.BoolOp .And [] pos) Q:=λ g A s a r=>isTrue_and_nil ⟨g,μ,.rfl,r,h⟩
theorem WB.or {e:Expr}{es:List Expr}{pos:Pos}{Q:Bool->Mem->Prop}(h:WB X l R env ρ μ e (KOr X l R env ρ (.BoolOp .Or es pos) Q)):WB X l R env ρ μ (.BoolOp .Or (e :: es) pos) Q:=by
 intro g A s a r
 refine isTrue_or ?_
 refine am (h g A s a r) (λ b dr hh=>?_) λ Y Y e=>e
 obtain⟨du,dp,dy,dz,dw,dJ⟩:=hh
 induction b with
 | false=>exact am (dw rfl du A dr a dz) (λ Y Y hh=>hh.up dy) λ Y Y e=>e
 | true=>exact⟨du,dp,dy,dz,dJ rfl⟩
theorem WB.orNil {pos:Pos}{Q:Bool->Mem->Prop}(h:Q false μ):WB X l R env ρ μ (.BoolOp .Or [] pos) Q:=λ g A s a r=>isTrue_or_nil ⟨g,μ,.rfl,r,h⟩
theorem W.ite {t b o:Expr}{pos:Pos}{Q:V->Mem->Prop}(h:WB X l R env ρ μ t (KIte X l R env ρ b o Q)):W X l R env ρ μ (.IfExp t b o pos) Q:=by
 intro g A s a r
 refine wpAny_IfExp ?_
 refine am (h g A s a r) (λ c dr hh=>?_) λ Y Y e=>e
 obtain⟨du,dp,dy,dz,dw,dJ⟩:=hh
 induction c with
 | true=>rw [aB rfl];exact am (dw rfl du A dr a dz) (λ Y Y hh=>hh.up dy) λ Y Y e=>e
 | false=>rw [aw (by decide)];exact am (dJ rfl du A dr a dz) (λ Y Y hh=>hh.up dy) λ Y Y e=>e
theorem W.and2 {d7 dY:Expr}{pos:Pos}{Q:V->Mem->Prop}(h:W X l R env ρ μ d7 (KA2 X l R env ρ dY Q)):W X l R env ρ μ (.BoolOp .And [d7,dY] pos) Q:=by
 intro g A s a r
 refine wpAny_And2 (am (h g A s a r) (λ v dr hh=>?_) λ Y Y e=>e)
 obtain⟨du,dp,dy,dz,x,vx,dw⟩:=hh
 refine am (dw du v vx A dr a dz) (λ b dq hh=>?_) λ Y Y e=>e
 obtain⟨dC,dt,dB,dv,dJ,eJ⟩:=hh
 induction b with
 | true=>rw [aB rfl];exact am (dJ rfl dC A dq a dv) (λ Y Y hh=>hh.up (dy.trans dB)) λ Y Y e=>e
 | false=>rw [aw (by decide)];exact⟨dC,dt,dy.trans dB,dv,x,vx.mono dB,eJ rfl⟩
noncomputable def noStar:List Expr->Bool
 | []=>true
 | .Starred _ _ :: _=>false
 | _ :: es=>noStar es
theorem zew {e:Expr}{es:List Expr}{env:Env}(h:true=noStar [e]):starEach (e :: es) env=(false,eval e env) :: starEach es env:=by
 cases e <;> first | rfl | cases h
theorem zbw {e:Expr}{es:List Expr}(h:true=noStar (e :: es)):true=noStar [e]/\true=noStar es:=by
 cases e <;> first | exact⟨rfl,h⟩ | cases h
theorem zgT {env:Env}{pos:Pos}:∀ {es:List Expr},true=noStar es->((backTo pos (starEach es env)).any (·.1))=false
 | [],_=>rfl
 | e :: es,h=>by rw [zew (zbw h).1];exact zgT (zbw h).2
theorem zit {e:Expr}{es:List Expr}{env:Env}(h:true=noStar (e :: es)):starEach (e :: es) env=(false,eval e env) :: starEach es env/\∀ pos,((backTo pos (starEach es env)).any (·.1))=false :=
 ⟨zew (zbw h).1,λ Y=>zgT (zbw h).2⟩
theorem WL.nil {Q:List V->Mem->Prop}(h:Q [] μ):WL X l R env ρ μ [] Q:=λ g pos A s a r=>ai ⟨g,μ,.rfl,r,[],.nil,h⟩
theorem WL.cons {e:Expr}{es:List Expr}{Q:List V->Mem->Prop}(h:W X l R env ρ μ e (KL X l R env ρ es Q))
  (he:true=noStar [e]:=by exact rfl):WL X l R env ρ μ (e :: es) Q:=by
 intro g pos
 rw [zew he]
 show Tr _ _ _ _ _ _ _ (spliced ((false,eval e env) :: backTo pos (starEach es env))) _
 unfold spliced
 refine Tr.bind ((h g).mono λ du v dp Y ⟨x,vx,dw⟩=>?_)
 refine Tr.bind (Tr.pure ?_)
 refine Tr.bind (Tr.holding ((dw du pos).mono λ dC vs dt le ⟨xs,vxs,q⟩=>?_))
 exact Tr.pure ⟨x :: xs,.cons (vx.mono le) vxs,q⟩
end
abbrev aj:=@WL.cons
abbrev ak:=@W.name
abbrev aq:=@WL.nil
abbrev bz:=@PB.bool
abbrev cr:=@WB.cmp
abbrev cF:=@W.binop
abbrev cS:=@W.global
abbrev dc:=@W.cstr
inductive NewRef (μ:Mem)(l:List V)(Q:V->Mem->Prop):Prop
 | mk (k:Id) (h:μ k=none) (q:Q (.ref k) (μ.set k (.list l))):NewRef μ l Q
inductive NewList (μ:Mem)(l:List V)(Q:V->Mem->Prop):Prop
 | inl (q:Q (.lst l) μ):NewList μ l Q
 | inr (q:NewRef μ l Q):NewList μ l Q
inductive KTp (Q:V->Mem->Prop)(xs:List V)(dp:Mem):Prop
 | mk (h:xs.length<=sizeLine) (q:Q (.tup xs) dp):KTp Q xs dp
inductive KLs (Q:V->Mem->Prop)(xs:List V)(dp:Mem):Prop
 | mk (h:xs.length<=sizeLine) (q:NewList dp xs Q):KLs Q xs dp
inductive RdL (μ:Mem):V->List V->Prop
 | lst {l:List V}:RdL μ (.lst l) l
 | ref {k:Id} {l:List V}:μ k=some (.list l)->RdL μ (.ref k) l
section
variable {X:Ctx}{l:Nat}{R:Nat->Option Obj}{env:Env}{ρ:Loc}{g:Gh}{μ:Mem}{s:Shared}
theorem Rep.list (r:Rep X R env ρ g μ s){x:V}{v:Value}{xs:List V}(hx:RdL μ x xs)(vr:VR g x v):∃ a items,v = .ref a/\s.heap.PlainList a items/\VRs g xs items.toList:=by
 induction hx with
 | lst=>obtain⟨a,rfl,h⟩:=vr;refine E12 (r.im _ _ h) λ items hl hv=>?_;exact⟨a,items,rfl,hl,hv⟩
 | ref hk =>
  refine E22 (r.mu _ _ hk) λ a d h y=>?_
  apply refE vr h
  obtain⟨_,items,hl,hv⟩:=y;exact⟨a,items,rfl,hl,hv⟩
theorem Rep.tup (r:Rep X R env ρ g μ s){v:Value}{xs:List V}(vr:VR g (.tup xs) v):∃ a items,v = .ref a/\IsTup s.heap a items/\VRs g xs items.toList:=by
 obtain⟨a,rfl,h⟩:=vr;refine E12 (r.im _ _ h) λ items hl hv=>?_;exact⟨a,items,rfl,hl,hv⟩
theorem Rep.push (r:Rep X R env ρ g μ s)(o:Obj):Rep X R env ρ g μ { s with heap:=s.heap.push o }:=r.keepAll (λ Y Y h=>ay o h) rfl rfl rfl
theorem Rep.newTup (r:Rep X R env ρ g μ s){xs:List V}{vs:List Value}(h:VRs g xs vs){n:Option Nat} :
  g.le (g.newIm s.heap.objs.size (.tup xs))/\Rep X R env ρ (g.newIm s.heap.objs.size (.tup xs)) μ { s with heap:=s.heap.push { cls:=.type "tuple",data:=.seq vs.toArray } }/\VR (g.newIm s.heap.objs.size (.tup xs)) (.tup xs) (.ref s.heap.objs.size):=by
 obtain⟨a,b⟩:=r.newIm (s':={ s with heap:=s.heap.push { cls:=.type "tuple",data:=.seq vs.toArray } }) (v:=.tup xs) (an _) (λ Y Y h=>ay _ h)
  ⟨vs.toArray,⟨_,aJ _ rfl,rfl,_,rfl⟩,by simpa using h⟩ rfl rfl rfl
 exact⟨a,b,_,rfl,by simp [Gh.newIm]⟩
theorem Rep.newLst (r:Rep X R env ρ g μ s){xs:List V}{vs:List Value}(h:VRs g xs vs){Q:V->Mem->Prop}(q:NewList μ xs Q){s':Shared}{n:Nat}(hn:s.heap.objs.size<=n)(k:∀ a o,s.heap.get? a=some o->s'.heap.get? a=some o)
  (hl:s'.heap.PlainList n vs.toArray) (hg:s'.gens=s.gens) (ho:s'.os=s.os) (hd:s'.drawn=s.drawn) :
  TPst X R env ρ g (VPst Q) (.ref n) s':=by
 rcases q with q | ⟨i,hi,q⟩
 ·obtain⟨a,b⟩:=r.newIm (s':=s') (v:=.lst xs) hn k ⟨vs.toArray,hl,by simpa using h⟩ hg ho hd
  exact⟨_,_,a,b,.lst xs,⟨_,rfl,by simp [Gh.newIm]⟩,q⟩
 ·obtain⟨a,b⟩:=r.newMu (s':=s') (i:=i) (o:=.list xs) hi ⟨hn,hn⟩ k ⟨rfl,vs.toArray,hl,by simpa using h⟩ hg ho hd
  exact⟨_,_,a,b,.ref i,⟨n,n,rfl,by simp [Gh.newMu]⟩,q⟩
theorem W.tuple {es:List Expr}{k:Nat}{pos:Pos}{Q:V->Mem->Prop}(h:WL X l R env ρ μ es (KTp Q)):W X l R env ρ μ (.Tuple es k pos) Q:=by
 intro g A s a r
 refine wpAny_Tuple_spliced (am (h g pos A s a r) (λ vs dr ⟨du,dp,dy,dz,xs,vx,hz,q⟩=>⟨vx.length▸hz,?_⟩) λ Y Y e=>e)
 obtain⟨dB,dv,e8⟩:=dz.newTup vx (n:=none)
 exact⟨_,_,dy.trans dB,dv,_,e8,q⟩
theorem W.list {es:List Expr}{pos:Pos}{Q:V->Mem->Prop}(h:WL X l R env ρ μ es (KLs Q)):W X l R env ρ μ (.List es pos) Q:=by
 intro g A s a r
 refine wpAny_List_spliced (am (h g pos A s a r) (λ vs dr ⟨du,dp,dy,dz,xs,vx,hz,q⟩=>⟨vx.length▸hz,?_⟩) λ Y Y e=>e)
 obtain⟨dC,dt,dB,dv,eE⟩:=dz.newLst vx q (s':={ dr with heap:=dr.heap.push { cls:=.type "list",data:=.seq vs.toArray } }) (an _) (λ Y Y h=>ay _ h) ⟨0,aJ _ rfl⟩ rfl rfl rfl
 exact⟨dC,dt,dy.trans dB,dv,eE⟩
theorem W.sub {d7 dY:Expr}{pos:Pos}{Q:V->Mem->Prop}(h:W X l R env ρ μ d7 (K2 X l R env ρ dY (subscriptTail d7 dY) Q)) :
  W X l R env ρ μ (.Subscript d7 dY pos) Q:=by
 intro g A s a r
 refine Subscript_ (am (h g A s a r) (λ v dr hh=>?_) λ Y Y e=>e)
 obtain⟨du,dp,dy,dz,x,vx,dw⟩:=hh
 refine am (dw du A dr a dz) (λ u dq hh=>?_) λ Y Y e=>e
 obtain⟨dC,dt,dB,dv,y,vy,dJ⟩:=hh
 exact am (dJ dC v u (vx.mono dB) vy A dq a dv) (λ Y Y hh=>hh.up (dy.trans dB)) λ Y Y e=>e
theorem VRs.getA {xs:List V}{items:Array Value}(h:VRs g xs items.toList){i:Nat}{x:V}(hx:xs[i]? = some x):∃ v,items[i]? = some v/\VR g x v:=by
 refine E12 (h.get hx) λ v a b=>?_;exact⟨v,by simpa using a,b⟩
theorem P2.itemL {value slice:Expr}{x z:V}{xs:List V}{i:Int}{Q:V->Mem->Prop}(hx:RdL μ x xs)(h0:0<=i)(h2:i < 2 ^ 63)(hz:xs[i.toNat]? = some z)(q:Q z μ)
  (hs:∀ a b,subscripted slice false a b=operate [a,b] (getItem a b):=by intros;rfl):P2 X l R env ρ μ (subscriptTail value slice) x (.int i) Q:=by
 rintro g v u vr ⟨t,rfl⟩ A s a r
 refine E23 (r.list hx vr) λ b items q9 hl hv=>?_;subst q9
 refine E12 (hv.getA hz) λ w hw wr=>?_
 exact tail_any hl.isList.typeIs slot_list_getitem.lookup (wpAny_getItem_list hl.isList h0 h2 hw ⟨g,μ,.rfl,r,z,wr,q⟩) (hs _ _)
theorem P2.itemT {value slice:Expr}{z:V}{xs:List V}{i:Int}{j:Nat}{Q:V->Mem->Prop}(h0:-(2 ^ 63)<=i)(h2:i < 2 ^ 63)(hj:seqIndex? i xs.length=some j)(hz:xs[j]? = some z)(q:Q z μ)
  (hs:∀ a b,subscripted slice false a b=operate [a,b] (getItem a b):=by intros;rfl):P2 X l R env ρ μ (subscriptTail value slice) (.tup xs) (.int i) Q:=by
 rintro g v u vr ⟨t,rfl⟩ A s a r
 refine E23 (r.tup vr) λ b items q9 hl hv=>?_;subst q9
 refine E12 (hv.get hz) λ w hw wr=>?_
 have hlen:=hv.length
 exact item_tupleT (l:=items.toList) (by simpa using hl) h0 h2 (by rw [<- hlen];exact hj) hw ⟨g,μ,.rfl,r,z,wr,q⟩ (hs _ _)
theorem zhp (h:Heap)(o:Obj)(items:Array Value):((h.push o).push { cls:=.type "list",data:=.seq items }).PlainList (h.objs.size+1) items.toList.toArray:=by
 have:=aJ (h.push o) (o:={ cls:=.type "list",data:=.seq items }) rfl
 rw [Heap.size_push]at this
 exact⟨0,by simpa using this⟩
noncomputable def WP (X:Ctx)(l:Nat)(R:Nat->Option Obj)(env:Env)(ρ:Loc)(μ:Mem)(e:Option Expr)(Q:Option Int->Mem->Prop):Prop :=
 ∀ g,Tr X l R env ρ g μ (evalPart e env) λ Y v dl=>∃ k,IsPart v k/\Q k dl
theorem WP.nil {Q:Option Int->Mem->Prop}(q:Q none μ):WP X l R env ρ μ none Q:=λ g A s a r=>ai ⟨g,μ,.rfl,r,Option.none,.none,q⟩
theorem WP.one {e:Expr}{Q:Option Int->Mem->Prop}(h:W X l R env ρ μ e λ x dl=>∃ i,x = .int i/\Q (some i) dl):WP X l R env ρ μ (some e) Q:=λ g=>(h g).mono λ Y v dl Y ⟨x,vx,i,e,q⟩=>by
 subst e;obtain⟨t,rfl⟩:=vx;exact⟨some i,.int _ _,q⟩
theorem zi4 {xs:List V}{items:Array Value}(h:VRs g xs items.toList)(lo hi:Option Int):VRs g ((xs.drop (kms_lo lo xs.length)).take (kms_hi hi xs.length - kms_lo lo xs.length)) (slicePick items lo hi none).toList:=by
 rw [kms_pick_eq]
 have e:=h.length
 show VRs g _ (kms_pick items.toList lo hi)
 unfold kms_pick
 rw [<- e]
 exact(h.drop _).take _
noncomputable def sliceV (xs:List V)(lo hi:Option Int):List V:=(xs.drop (kms_lo lo xs.length)).take (kms_hi hi xs.length - kms_lo lo xs.length)
theorem W.sliceL {e:Expr}{lower upper:Option Expr}{p pos:Pos}{Q:V->Mem->Prop}
  (h:W X l R env ρ μ e λ x dp=>WP X l R env ρ dp lower λ lo dt=>WP X l R env ρ dt upper λ hi dK=>∃ xs,RdL dK x xs/\xs.length<=sizeLine/\NewList dK (sliceV xs lo hi) Q) :
  W X l R env ρ μ (.Subscript e (.Slice lower upper none p) pos) Q:=by
 intro g A s a r
 refine Subscript_ (am (h g A s a r) (λ v dr hh=>?_) λ Y Y e=>e)
 obtain⟨du,dp,dy,dz,x,vx,dw⟩:=hh
 refine wpAny_Slice ?_
 refine am (dw du A dr a dz) (λ vl dq hh=>?_) λ Y Y e=>e
 obtain⟨dC,dt,dB,dv,q8⟩:=hh;refine E12 q8 λ lo pl dJ=>?_;clear q8
 refine am (dJ dC A dq a dv) (λ vu d6 hh=>?_) λ Y Y e=>e
 obtain⟨d8,dK,dU,dS,hi,pu,q8⟩:=hh;refine E13 q8 λ xs hx hz q=>?_;clear q8
 refine ai ?_
 refine E23 (dS.list hx (vx.mono (dB.trans dU))) λ b items q9 hl hv=>?_;subst q9
 have hsz:items.size<=sizeLine:=by have:=hv.length;simp at this;simp_all
 have d9:=dS.push { cls:=.type "slice",data:=.fields #[vl,vu,.none] }
 obtain⟨eK,ew,ey,eG,q₅⟩:=dS.newLst (zi4 hv lo hi) (s':={ d6 with heap:=(d6.heap.push { cls:=.type "slice",data:=.fields #[vl,vu,.none] }).push { cls:=.type "list",data:=.seq (slicePick items lo hi none) } })
  (n:=d6.heap.objs.size+1) q (by exact bA _) (λ Y Y h=>ay _ (ay _ h)) (zhp _ _ _) rfl rfl rfl
 refine tail_any (Heap.IsList.typeIs (s:={ d6 with heap:=d6.heap.push { cls:=.type "slice",data:=.fields #[vl,vu,.none] } }) (hl.isList.push _)) list_getitem_lookup
  (wpAny_getItem_list_slice (hl.isList.push _) (Heap.IsSliceOf.new ..) pl pu .none (by simp) ?_ hsz) (ops:=[.ref d6.heap.objs.size,.ref b]) (by rfl)
 show TPst _ _ _ _ _ _ (Value.ref (d6.heap.push _).objs.size) _
 rw [Heap.size_push]
 exact⟨eK,ew,((dy.trans dB).trans dU).trans ey,eG,q₅⟩
end
abbrev cm:=@W.tuple
abbrev cC:=@W.sub
abbrev cV:=@W.list
inductive Up:Loc->Str->V->Loc->Prop
 | here {x:Str} {v w:V} {ρ:Loc}:Up ((x,w) :: ρ) x v ((x,v) :: ρ)
 | new {x:Str} {v:V}:Up [] x v [(x,v)]
 | there {x y:Str} {v w:V} {ρ dm:Loc}:x≠y->Up ρ x v dm->Up ((y,w) :: ρ) x v ((y,w) :: dm)
theorem Up.keys {ρ dm:Loc}{x:Str}{v:V}(u:Up ρ x v dm):∀ y∈dm.map (·.1),y=x∨y∈ρ.map (·.1):=by
 induction u with
 | here=>intro y hy;exact .inr hy
 | new=>intro y hy;simp at hy;exact .inl hy
 | there _ _ ih =>
  intro y hy
  rcases List.mem_cons.mp hy with rfl | hy
  ·exact .inr (.head _)
  ·rcases ih y hy with h | h
   ·exact .inl h
   ·exact .inr (.tail _ h)
theorem Up.nodup {ρ dm:Loc}{x:Str}{v:V}(u:Up ρ x v dm)(h:(ρ.map (·.1)).Nodup):(dm.map (·.1)).Nodup:=by
 induction u with
 | here=>exact h
 | new=>simp
 | there n u ih =>
  rw [aH,bL]at h ⊢
  refine⟨λ q=>?_,ih h.2⟩
  rcases u.keys _ q with e | e
  ·exact n e.symm
  ·exact h.1 e
theorem Up.mem {ρ dm:Loc}{x:Str}{v:V}(u:Up ρ x v dm)(h:(ρ.map (·.1)).Nodup):∀ p∈dm,p=(x,v)∨(p∈ρ/\p.1≠x):=by
 induction u with
 | here =>
  intro p hp
  rw [aH,bL]at h
  rcases List.mem_cons.mp hp with rfl | hp
  ·exact .inl rfl
  ·exact .inr ⟨.tail _ hp,λ e=>h.1 (List.mem_map.mpr ⟨p,hp,e⟩)⟩
 | new=>intro p hp;exact .inl (List.mem_singleton.mp hp)
 | there n u ih =>
  intro p hp
  rw [aH,bL]at h
  rcases List.mem_cons.mp hp with rfl | hp
  ·exact .inr ⟨.head _,λ e=>n e.symm⟩
  ·rcases ih h.2 p hp with e | ⟨e,e'⟩
   ·exact .inl e
   ·exact .inr ⟨.tail _ e,e'⟩
section
variable {X:Ctx}{l:Nat}{R:Nat->Option Obj}{env:Env}{ρ dm:Loc}{g:Gh}{μ:Mem}{s:Shared}
theorem Rep.frame (r:Rep X R env ρ g μ s){s':Shared}{a:Nat}(ha:Own R env a)(hs:Heap.SameBut a s.heap s'.heap)(hf:FrOk R env dm g s'.heap)(hg:s'.gens=s.gens)(ho:s'.os=s.os)(hd:s'.drawn=s.drawn):Rep X R env dm g μ s':=by
 obtain⟨o1,o2,o3⟩:=r.fr.own a ha
 have k:∀ b o,b≠a->s.heap.get? b=some o->s'.heap.get? b=some o:=λ b o ne h=>(hs.2 b ne).trans h
 refine⟨r.baseR,λ b o h=>k b o (by rintro rfl;rw [o1]at h;cases h) (r.res b o h),r.above,λ b w e=>?_,r.imr,λ j o' h=>?_,r.dom,r.sep,r.off,hf,hg.trans r.gens,ho.trans r.os,trivial⟩
 ·have ne:b≠a:=by rintro rfl;rw [o2]at e;cases e
  exact(r.im b w e).mono .rfl λ o' h=>k b o' ne h
 ·refine E22 (r.mu j o' h) λ b e e1 z=>?_
  obtain⟨n1,n2⟩:=o3 j b e e1
  exact⟨b,e,e1,z.mono .rfl (λ o h=>k b o n1 h) λ o h=>k e o n2 h⟩
theorem Rep.storeL (r:Rep X R env ρ g μ s){n:Str}{x:V}{v:Value}{m:Str->Option Value}(vr:VR g x v)(hk:env.kindOf n=some .local)(u:Up ρ n x dm){s':Shared}
  (hm:s.heap.Ns env.locals m) (hn:s'.heap.Ns env.locals λ y=>if y=n then some v else m y) (hs:Heap.SameBut env.locals s.heap s'.heap) (hg:s'.gens=s.gens) (ho:s'.os=s.os) (hd:s'.drawn=s.drawn):Rep X R env dm g μ s':=by
 refine r.frame (.inl rfl) hs ?_ hg ho hd
 have f:=r.fr
 have kc:∀ x c o,env.kindOf x=some .cell->env.cells.lookup x=some c->s.heap.get? c=some o->s'.heap.get? c=some o:=λ x c o e hc h=>(hs.2 c (f.off x c e hc)).trans h
 refine⟨f.kind,f.glob,f.blt,⟨_,hn⟩,λ x e=>?_,f.apart,f.off,f.own,f.mine,f.free,f.ck,u.nodup f.nodup,λ p hp=>?_⟩
 ·refine E22 (f.cell x e) λ c v hc q7=>?_;obtain⟨o,ho,r⟩:=q7;exact⟨c,v,hc,o,kc x c o e hc ho,r⟩
 ·rcases u.mem f.nodup p hp with rfl | ⟨hp,ne⟩
  ·exact⟨v,.inl ⟨hk,_,hn,by simp⟩,vr⟩
  ·refine E12 (f.vals p hp) λ val y vr'=>?_
   refine⟨val,?_,vr'⟩
   rcases y with ⟨e,m',hm',e'⟩ | ⟨e,c,hc,o,ho,hd⟩
   ·refine .inl ⟨e,_,hn,?_⟩
    rw [aw ne]
    refine E34 (hm) λ o1 es1 ep1 a1 b1 c1 d1=>?_
    refine E34 (hm') λ o2 es2 ep2 a2 b2 c2 d2=>?_
    rw [a1]at a2;cases a2
    rw [b1]at b2;cases b2
    rw [<- d1,d2];exact e'
   ·refine .inr ⟨e,c,hc,o,?_,hd⟩
    rcases e with e | e
    ·exact kc _ c o e hc ho
    ·obtain⟨o',hR⟩:=f.free _ c e hc
     exact(hs.2 c (by rintro rfl;rw [(f.own _ (.inl rfl)).1]at hR;cases hR)).trans ho
theorem Rep.storeC (r:Rep X R env ρ g μ s){n:Str}{x:V}{v:Value}{c:Nat}(vr:VR g x v)(hk:env.kindOf n=some .cell)(hc:env.cells.lookup n=some c)(hR:R c=none)(u:Up ρ n x dm){s':Shared}
  (hn:s'.heap.IsCell c (some v)) (hs:Heap.SameBut c s.heap s'.heap) (hg:s'.gens=s.gens) (ho:s'.os=s.os) (hd:s'.drawn=s.drawn):Rep X R env dm g μ s':=by
 have f:=r.fr
 have hL:env.locals≠c:=λ e=>f.off n c hk hc e.symm
 have kl:∀ m,s.heap.Ns env.locals m->s'.heap.Ns env.locals m:=zeX λ o h=>(hs.2 _ hL).trans h
 refine r.frame (.inr ⟨hR,n,hk,hc⟩) hs ?_ hg ho hd
 have kc:∀ x c' o,x≠n->env.kindOf x=some .cell->env.cells.lookup x=some c'->s.heap.get? c'=some o->s'.heap.get? c'=some o:=λ x c' o ne e hc' h =>
  (hs.2 c' (by rintro rfl;exact ne (f.apart x n c' e hc' hc hR))).trans h
 refine⟨f.kind,f.glob,f.blt,?_,λ x e=>?_,f.apart,f.off,f.own,f.mine,f.free,f.ck,u.nodup f.nodup,λ p hp=>?_⟩
 ·obtain⟨m,hm⟩:=f.ns;exact⟨m,kl m hm⟩
 ·by_cases hx:x=n
  ·subst hx;exact⟨c,_,hc,hn⟩
  ·refine E22 (f.cell x e) λ c' v hc' q7=>?_;obtain⟨o,ho,r⟩:=q7;exact⟨c',v,hc',o,kc x c' o hx e hc' ho,r⟩
 ·rcases u.mem f.nodup p hp with rfl | ⟨hp,ne⟩
  ·exact⟨v,.inr ⟨.inl hk,c,hc,hn⟩,vr⟩
  ·refine E12 (f.vals p hp) λ val y vr'=>?_
   refine⟨val,?_,vr'⟩
   rcases y with ⟨e,m',hm',e'⟩ | ⟨e,c',hc',o,ho,hd⟩
   ·exact .inl ⟨e,m',kl _ hm',e'⟩
   ·refine .inr ⟨e,c',hc',o,?_,hd⟩
    rcases e with e | e
    ·exact kc _ c' o ne e hc' ho
    ·obtain⟨o',hR'⟩:=f.free _ c' e hc'
     exact(hs.2 c' (by rintro rfl;rw [hR]at hR';cases hR')).trans ho
theorem store {A:Around}{E:Value->Shared->Prop}{Q:Unit->Shared->Prop}(r:Rep X R env ρ g μ s){n:Str}{x:V}{v:Value}(vr:VR g x v)(hk:env.kindOf n=some .local∨(env.kindOf n=some .cell/\env.func.isSome=true))(u:Up ρ n x dm)
  (h:∀ s',Rep X R env dm g μ s'->Q () s'):wpAny (model X.prog X.w) A (storeName env n v) Q E s:=by
 rcases hk with hk | ⟨hk,hf⟩
 ·obtain⟨m,hm⟩:=r.fr.ns
  refine wpAny_storeName_local hk hm (λ h' hn hs=>h _ (r.storeL vr hk u hm hn hs rfl rfl rfl)) ?_
  rw [r.fr.kind];rfl
 ·refine E22 (r.fr.cell n hk) λ c v₀ hc ho=>?_
  exact wpAny_storeName_cell r.fr.kind hk hc ho λ h' hn hs=>h _ (r.storeC vr hk hc (r.fr.mine hf n c hk hc) u hn hs rfl rfl rfl)
theorem zdy {k n:Str}{t:Tok}:(Value.str k t).isStr n=(k == n):=rfl
theorem Ens.get {P:Params}{hash:Str->Int}{fs:List (Str × V)}{es:List DictEntry}(h:Ens P g hash isS fs es){x:Str}{v:V}(hx:Lk fs x v)(nd:(fs.map (·.1)).Nodup):∃ val,getL x es=some (some val)/\VR g v val:=by
 have key:∃ e,es.find? (·.key.isStr x)=some e/\VR g v e.val:=by
  induction h with
  | nil=>cases hx
  | @cons k y e xs es h1 h2 h3 _ ih =>
   obtain⟨t,ht⟩:=h2
   rw [aH,bL]at nd
   rw [List.find?_cons,ht,zdy]
   cases hx with
   | here=>simp;exact h3
   | there hx =>
    have:(k == x)=false:=beq_eq_false_iff_ne.mpr λ e=>nd.1 (List.mem_map.mpr ⟨_,hx.mem,e.symm⟩)
    rw [this];exact ih hx nd.2
 refine E12 (key) λ e he v=>?_
 exact⟨e.val,by unfold getL;rw [he],v⟩
theorem Ens.noRef {P:Params}{hash:Str->Int}{fs:List (Str × V)}{es:List DictEntry}(h:Ens P g hash isS fs es):es.any (·.refKey)=false:=by
 induction h with
 | nil=>rfl
 | cons _ h2 _ _ ih=>obtain⟨t,ht⟩:=h2;rw [List.any_cons,ih,Bool.or_false,DictEntry.refKey,ht]
theorem Ens.getAny {P:Params}{hash:Str->Int}{fs:List (Str × V)}{es:List DictEntry}(h:Ens P g hash isS fs es)(x:Str):(getL x es).isSome=true:=by
 unfold getL
 split
 ·rfl
 ·rw [h.noRef];rfl
theorem Ens.getNone {P:Params}{hash:Str->Int}{fs:List (Str × V)}{es:List DictEntry}(h:Ens P g hash isS fs es){x:Str}(hx:x∉fs.map (·.1)):getL x es=some none:=by
 have:es.find? (·.key.isStr x)=none:=by
  induction h with
  | nil=>rfl
  | @cons k y e xs es h1 h2 h3 _ ih =>
   obtain⟨t,ht⟩:=h2
   rw [aH,bD,not_or]at hx
   rw [List.find?_cons,ht,zdy]
   have:(k == x)=false:=beq_eq_false_iff_ne.mpr λ e=>hx.1 e.symm
   rw [this];exact ih hx.2
 unfold getL
 rw [this,h.noRef];rfl
theorem Ens.put {P:Params}{hash:Str->Int}{fs fs':List (Str × V)}{es:List DictEntry}(h:Ens P g hash isS fs es){x:Str}{v:V}(u:Up fs x v fs'){val:Value}{t:Tok}(vr:VR g v val):Ens P g hash isS fs' (putL x (hash x) (.str x t) val es):=by
 induction u generalizing es with
 | here =>
  cases h with
  | cons h1 h2 h3 h4 =>
   obtain⟨t',ht⟩:=h2
   unfold putL
   rw [ht,zdy,aB (by simp)]
   exact .cons h1 ⟨t',rfl⟩ vr h4
 | new =>
  cases h
  exact .cons rfl ⟨t,rfl⟩ vr .nil
 | there n u ih =>
  cases h with
  | cons h1 h2 h3 h4 =>
   obtain⟨t',ht⟩:=h2
   unfold putL
   rw [ht,zdy,aw (by simpa using λ e=>n e.symm)]
   exact .cons h1 ⟨t',ht⟩ h3 (ih h4 vr)
noncomputable def fieldOk (K:Frag)(C:Nat)(name:Str):Bool:=plainGet K C name && hasDictIn K C && (match findIn K (.ref C) name with | some attr=>noGet K attr | none=>false)
noncomputable def storeOk (K:Frag)(C:Nat)(name:Str):Bool:=(findIn K (.ref C) "__setattr__" == some (some (.builtin "object.__setattr__"))) && plainOver K C && (takerIn K C name == some none) && hasDictIn K C
noncomputable def Handed:V->Prop
 | .lit w=>handedIn w=true
 | _=>True
theorem Handed.of {v:V}{w:Value}(h:Handed v)(vr:VR g v w):handedIn w=true:=by
 cases v with
 | lit w'=>cases vr;exact h
 | int i=>obtain⟨t,rfl⟩:=vr;rfl
 | str i=>obtain⟨t,rfl⟩:=vr;rfl
 | tup l=>obtain⟨t,rfl,_⟩:=vr;rfl
 | lst l=>obtain⟨t,rfl,_⟩:=vr;rfl
 | ref l=>refine E22 (vr) λ t d q9 _=>?_;subst q9;rfl
 | rng p q=>obtain⟨t,rfl,_⟩:=vr;rfl
 | set p l=>obtain⟨t,rfl,_⟩:=vr;rfl
 | none=>cases vr;rfl
 | bool b=>cases vr;rfl
theorem Rep.fr_ (r:Rep X R env ρ g μ s):∃ m,Fr X.base env.locals s.heap m:=by
 obtain⟨m,hm⟩:=r.fr.ns;exact⟨m,hm,r.base,r.above⟩
theorem Rep.inst (r:Rep X R env ρ g μ s){k:Id}{C:Nat}{fs:List (Str × V)}(hk:μ k=some (.inst C fs)):∃ a d es n,g.mu k=some (a,d)/\d≠a/\(fs.map (·.1)).Nodup/\W.InstAt s.heap a (instObj C d) C (some (dictOf es n))/\Ens X.w.params g (PyData.keyHash X.w.params) isS fs es:=by
 refine E25 (r.mu k _ hk) λ a d e h1 nd h2 q7=>?_;obtain⟨es,n,h3,h4⟩:=q7
 exact⟨a,d,es,n,e,h1,nd,⟨h2,rfl,rfl,h3⟩,h4⟩
noncomputable def GA (X:Ctx)(l:Nat)(R:Nat->Option Obj)(env:Env)(ρ:Loc)(μ:Mem)(x:V)(name:Str)(Q:V->Mem->Prop):Prop:=P1 X l R env ρ μ (λ v=>getAttr v name true) x Q
set_option tactic.hygienic true in
theorem GA.field {k:Id}{C:Nat}{fs:List (Str × V)}{name:Str}{v:V}{Q:V->Mem->Prop}(hk:μ k=some (.inst C fs))(hx:Lk fs name v)(hf:fieldOk X.K C name=true)(hh:Handed v)(q:Q v μ):GA X l R env ρ μ (.ref k) name Q:=by
 intro g w vr0 A s ao r
 refine E45 (r.inst hk) λ a d es n hg h1 nd I h4=>?_
 apply refE vr0 hg
 refine E12 (h4.get hx nd) λ val hv vr=>?_
 obtain⟨m,F⟩:=r.fr_
 unfold fieldOk at hf
 simp only [bl]at hf
 obtain⟨⟨f1,f2⟩,f3⟩:=hf
 split at f3
 ·rename_i attr ha
  exact get_own F X.kin I f1 f2 ha f3 hv (hh.of vr) ⟨g,μ,.rfl,zag r _,v,vr,q⟩
 ·cases f3
noncomputable abbrev KAt (X:Ctx)(l:Nat)(R:Nat->Option Obj)(env:Env)(ρ:Loc)(attr:Str)(Q:V->Mem->Prop):V->Mem->Prop:=λ x dp=>GA X l R env ρ dp x attr Q
theorem W.attr {e:Expr}{attr:Str}{pos:Pos}{Q:V->Mem->Prop}(h:W X l R env ρ μ e (KAt X l R env ρ attr Q))
  (he:∀ env,eval (.Attribute e attr pos) env=(do let o <- eval e env;standAt pos.atName;let r <- PySem.holding [o] (getAttr o attr true);letTemporaryGo e o r;pure r):=by intro _;rfl) :
  W X l R env ρ μ (.Attribute e attr pos) Q:=by
 intro g A s a r
 refine Attribute_any_ (am (h g A s a r) (λ v dr hh=>?_) λ Y Y e=>e) (he _)
 obtain⟨du,dp,dy,dz,x,vx,dw⟩:=hh
 exact am (dw du v vx A dr a dz) (λ Y Y hh=>hh.up dy) λ Y Y e=>e
end
set_option genInjectivity false in
inductive Fl where
 | next | ret (x:V)
theorem Fl.nr {x:V}(e:Fl.next = .ret x):False:=by cases e
theorem Fl.rn {x:V}(e:Fl.ret x = .next):False:=by cases e
theorem dead {p q:Prop}(h:p)(n:¬ p:=by first | exact Bool.false_ne_true | exact Bool.false_ne_true ∘ bo | exact Fl.nr | exact Fl.rn):q:=(n h).elim
noncomputable def FR (g:Gh):Fl->Flow->Prop
 | .next,f=>f = .next
 | .ret x,f=>∃ v,f = .ret v/\VR g x v
inductive SPst (X:Ctx)(R:Nat->Option Obj)(env:Env)(g:Gh)(Q:Fl->Loc->Mem->Prop)(f:Flow)(s':Shared):Prop
 | mk (g':Gh) (dm:Loc) (dl:Mem) (fl:Fl) (le:g.le g') (r:Rep X R env dm g' dl s') (h:FR g' fl f) (q:Q fl dm dl):SPst X R env g Q f s'
inductive APst (X:Ctx)(R:Nat->Option Obj)(env:Env)(g:Gh)(Q:Loc->Mem->Prop)(s':Shared):Prop
 | mk (g':Gh) (dm:Loc) (dl:Mem) (le:g.le g') (r:Rep X R env dm g' dl s') (q:Q dm dl):APst X R env g Q s'
noncomputable def XT (X:Ctx)(l:Nat)(R:Nat->Option Obj)(env:Env)(ρ:Loc)(μ:Mem)(t:Sem Flow)(Q:Fl->Loc->Mem->Prop):Prop :=
 ∀ g A s,AOk X A l->Rep X R env ρ g μ s->wpAny (model X.prog X.w) A t (SPst X R env g Q) (λ Y Y=>False) s
noncomputable abbrev XS (X:Ctx)(l:Nat)(R:Nat->Option Obj)(env:Env)(ρ:Loc)(μ:Mem)(st:Stmt)(Q:Fl->Loc->Mem->Prop):Prop:=XT X l R env ρ μ (exec st env) Q
noncomputable abbrev XB (X:Ctx)(l:Nat)(R:Nat->Option Obj)(env:Env)(ρ:Loc)(μ:Mem)(b:List Stmt)(Q:Fl->Loc->Mem->Prop):Prop:=XT X l R env ρ μ (execs b env) Q
noncomputable abbrev Post (Q:V->Mem->Prop):Fl->Loc->Mem->Prop:=λ fl Y dl=>match fl with | .ret x=>Q x dl | .next=>Q .none dl
noncomputable abbrev Thn (X:Ctx)(l:Nat)(R:Nat->Option Obj)(env:Env)(b:List Stmt)(Q:Fl->Loc->Mem->Prop):Fl->Loc->Mem->Prop:=λ fl dm dl=>(fl = .next->XB X l R env dm dl b Q)/\(∀ x,fl = .ret x->Q (.ret x) dm dl)
noncomputable abbrev Nxt (X:Ctx)(l:Nat)(R:Nat->Option Obj)(env:Env)(b:List Stmt)(Q:Fl->Loc->Mem->Prop):Fl->Loc->Mem->Prop:=λ fl dm dl=>fl = .next/\XB X l R env dm dl b Q
noncomputable abbrev Agn (Inv:Nat->Loc->Mem->Prop)(n:Nat)(Q:Fl->Loc->Mem->Prop):Fl->Loc->Mem->Prop:=λ fl dL dt=>(fl = .next->∃ m,m < n/\Inv m dL dt)/\(∀ x,fl = .ret x->Q (.ret x) dL dt)
noncomputable abbrev Trn (Inv:Nat->Loc->Mem->Prop)(i:Nat)(Q:Fl->Loc->Mem->Prop):Fl->Loc->Mem->Prop:=λ fl dL dt=>(fl = .next->Inv (i+1) dL dt)/\(∀ x,fl = .ret x->Q (.ret x) dL dt)
noncomputable abbrev KR (ρ:Loc)(Q:Fl->Loc->Mem->Prop):V->Mem->Prop:=λ x dl=>Q (.ret x) ρ dl
inductive KN (X:Ctx)(l:Nat)(R:Nat->Option Obj)(env:Env)(ρ:Loc)(n:Str)(b:List Stmt)(Q:Fl->Loc->Mem->Prop)(x:V)(dl:Mem):Prop
 | mk (dm:Loc) (u:Up ρ n x dm) (h:XB X l R env dm dl b Q):KN X l R env ρ n b Q x dl
noncomputable abbrev KX (X:Ctx)(l:Nat)(R:Nat->Option Obj)(env:Env)(ρ:Loc)(b:List Stmt)(Q:Fl->Loc->Mem->Prop):V->Mem->Prop:=λ Y dl=>XB X l R env ρ dl b Q
inductive KI (X:Ctx)(l:Nat)(R:Nat->Option Obj)(env:Env)(ρ:Loc)(b o:List Stmt)(Q:Fl->Loc->Mem->Prop)(c:Bool)(dl:Mem):Prop
 | mk (t:c=true->XB X l R env ρ dl b Q) (f:c=false->XB X l R env ρ dl o Q):KI X l R env ρ b o Q c dl
noncomputable def AT (X:Ctx)(l:Nat)(R:Nat->Option Obj)(env:Env)(ρ:Loc)(μ:Mem)(t:Expr)(x:V)(Q:Loc->Mem->Prop):Prop :=
 ∀ g v A s,VR g x v->AOk X A l->Rep X R env ρ g μ s->wpAny (model X.prog X.w) A (assign t env v) (λ Y s'=>APst X R env g Q s') (λ Y Y=>False) s
section
variable {X:Ctx}{l:Nat}{R:Nat->Option Obj}{env:Env}{ρ:Loc}{μ:Mem}
theorem SPst.up {g du:Gh}{Q:Fl->Loc->Mem->Prop}{f:Flow}{s':Shared}(h:SPst X R env du Q f s')(le:g.le du):SPst X R env g Q f s':=by
 obtain⟨g',dm,dl,fl,le',r,e,q⟩:=h
 exact⟨g',dm,dl,fl,le.trans le',r,e,q⟩
theorem XT.mono {t:Sem Flow}{Q Q':Fl->Loc->Mem->Prop}(h:XT X l R env ρ μ t Q)(hQ:∀ f dm dl,Q f dm dl->Q' f dm dl):XT X l R env ρ μ t Q' :=
 λ g A s a r=>am (h g A s a r) (λ Y Y q9=>by obtain⟨g',dm,dl,fl,le,r',f,q⟩:=q9;exact⟨g',dm,dl,fl,le,r',f,hQ _ _ _ q⟩) λ Y Y e=>e
theorem XB.nil {Q:Fl->Loc->Mem->Prop}(h:Q .next ρ μ):XB X l R env ρ μ [] Q:=λ g A s a r=>ai ⟨g,ρ,μ,.next,.rfl,r,rfl,h⟩
theorem XB.cons {st:Stmt}{b:List Stmt}{Q:Fl->Loc->Mem->Prop}(h:XS X l R env ρ μ st (Thn X l R env b Q)):XB X l R env ρ μ (st :: b) Q:=by
 intro g A s a r
 show wpAny _ _ (exec st env >>= λ f=>match f with | .next=>execs b env | f=>pure f) _ _ _
 refine ag (am (h g A s a r) (λ f s' hh=>?_) λ Y Y e=>e)
 obtain⟨g',dm,dl,fl,le,r',hf,q1,q2⟩:=hh
 induction fl with
 | next =>
  cases hf
  exact am (q1 rfl g' A s' a r') (λ Y Y hh=>hh.up le) λ Y Y e=>e
 | ret x=>obtain⟨v,rfl,vr⟩:=hf;exact ai ⟨g',dm,dl,.ret x,le,r',⟨v,rfl,vr⟩,q2 x rfl⟩
theorem XB.step {st:Stmt}{b:List Stmt}{Q:Fl->Loc->Mem->Prop}(h:XS X l R env ρ μ st (Nxt X l R env b Q)):XB X l R env ρ μ (st :: b) Q :=
 XB.cons (h.mono λ f dm dl q9=>by obtain⟨e,q⟩:=q9;exact⟨λ Y=>q,λ x e'=>by rw [e]at e';cases e'⟩)
theorem XS.expr {e:Expr}{pos:Pos}{Q:Fl->Loc->Mem->Prop}(h:W X l R env ρ μ e λ Y dl=>Q .next ρ dl)(h1:false=interactive env:=by exact rfl)(h2:pure false=swapsWith e none pos.line env:=by exact rfl):XS X l R env ρ μ (.Expr e pos) Q :=
 λ g A s a r=>wpAny_Expr_any (am (h g A s a r) (λ Y Y q9=>by obtain⟨g',dl,le,r',x,vr,q⟩:=q9;exact⟨g',ρ,dl,.next,le,r',rfl,q⟩) λ Y Y e=>e) h1.symm h2.symm
theorem XS.ret {e:Expr}{pos:Pos}{Q:Fl->Loc->Mem->Prop}(h:W X l R env ρ μ e λ x dl=>Q (.ret x) ρ dl):XS X l R env ρ μ (.Return (some e) pos) Q :=
 λ g A s a r=>wpAny_Return_some (am (h g A s a r) (λ v Y q9=>by obtain⟨g',dl,le,r',x,vr,q⟩:=q9;exact⟨g',ρ,dl,.ret x,le,r',⟨v,rfl,vr⟩,q⟩) λ Y Y e=>e)
theorem XS.if_ {t:Expr}{b o:List Stmt}{pos:Pos}{Q:Fl->Loc->Mem->Prop}(h:WB X l R env ρ μ t (KI X l R env ρ b o Q)):XS X l R env ρ μ (.If t b o pos) Q:=by
 intro g A s a r
 refine wpAny_If (am (h g A s a r) (λ c s' hh=>?_) λ Y Y e=>e)
 obtain⟨g',dl,le,r',q1,q2⟩:=hh
 induction c with
 | true=>rw [aB rfl];exact am (q1 rfl g' A s' a r') (λ Y Y hh=>hh.up le) λ Y Y e=>e
 | false=>rw [aw (by decide)];exact am (q2 rfl g' A s' a r') (λ Y Y hh=>hh.up le) λ Y Y e=>e
theorem XS.assignName {n:Str}{e:Expr}{p pos:Pos}{Q:Fl->Loc->Mem->Prop}(hk:env.kindOf n=some .local∨(env.kindOf n=some .cell/\env.func.isSome=true))
  (h:W X l R env ρ μ e λ x dl=>∃ dm,Up ρ n x dm/\Q .next dm dl) (hs:pure false=swapsWith e (some (.Name n p)) pos.line env:=by exact rfl):XS X l R env ρ μ (.Assign [.Name n p] e pos) Q:=by
 intro g A s a r
 refine wpAny_Assign_Name (am (h g A s a r) (λ v s' hh=>?_) λ Y Y e=>e) hs.symm
 obtain⟨g',dl,le,r',x,vr,q8⟩:=hh;refine E12 q8 λ dm u q=>?_;clear q8
 exact store r' vr hk u λ s2 r2=>⟨g',dm,dl,.next,le,r2,rfl,q⟩
theorem AT.name {n:Str}{p:Pos}{x:V}{dm:Loc}{Q:Loc->Mem->Prop}(hk:env.kindOf n=some .local∨(env.kindOf n=some .cell/\env.func.isSome=true))(u:Up ρ n x dm)(q:Q dm μ):AT X l R env ρ μ (.Name n p) x Q :=
 λ g v A s vr a r=>wpAny_assign_Name (store r vr hk u λ s2 r2=>⟨g,dm,μ,.rfl,r2,q⟩)
theorem XS.while_ {t:Expr}{b:List Stmt}{pos:Pos}{Q:Fl->Loc->Mem->Prop}(Inv:Nat->Loc->Mem->Prop)
  (turn:∀ n dm dl,Inv n dm dl->WB X l R env dm dl t λ c dp=>(c=true->XB X l R env dm dp b (Agn Inv n Q))/\(c=false->Q .next dm dp))
  (n:Nat) (h:Inv n ρ μ):XS X l R env ρ μ (.While t b [] pos) Q:=by
 intro g A s a r
 refine wpAny_While (codeAny_whileLoop (λ n s'=>APst X R env g (Inv n) s') ?_ n ⟨g,ρ,μ,.rfl,r,h⟩)
 rintro n s' ⟨g',dm,dl,le,r',inv⟩
 refine am (turn n dm dl inv g' A s' a r') (λ c dr hh=>?_) λ Y Y e=>e.elim
 obtain⟨du,dp,dy,dz,q1,q2⟩:=hh
 induction c with
 | true =>
  rw [aB rfl]
  refine am (q1 rfl du A dr a dz) (λ f dq hh=>?_) λ Y Y e=>e.elim
  obtain⟨dC,dL,dt,fl,dB,dv,hf,p1,p2⟩:=hh
  induction fl with
  | next=>cases hf;refine E12 (p1 rfl) λ m hm inv'=>?_;exact⟨m,hm,dC,dL,dt,(le.trans dy).trans dB,dv,inv'⟩
  | ret x=>obtain⟨v,rfl,vr⟩:=hf;exact⟨dC,dL,dt,.ret x,(le.trans dy).trans dB,dv,⟨v,rfl,vr⟩,p2 x rfl⟩
 | false =>
  rw [aw (by decide)]
  exact ai ⟨du,dm,dp,.next,le.trans dy,dz,rfl,q2 rfl⟩
structure Fre (R:Nat->Option Obj)(env:Env)(g:Gh)(it:Nat):Prop where
 R:R it=none
 im:g.im it=none
 mu:∀ k p d,g.mu k=some (p,d)->p≠it/\d≠it
 own:it≠env.locals/\∀ x,env.cells.lookup x≠some it
theorem Rep.but {g:Gh}{s s':Shared}{it:Nat}(r:Rep X R env ρ g μ s)(f:Fre R env g it)(k:∀ b o,b≠it->s.heap.get? b=some o->s'.heap.get? b=some o)(hg:s'.gens=s.gens)(ho:s'.os=s.os)(hd:s'.drawn=s.drawn):Rep X R env ρ g μ s':=by
 have kR:∀ b o,R b=some o->s'.heap.get? b=some o:=λ b o h=>k b o (by rintro rfl;rw [f.R]at h;cases h) (r.res b o h)
 refine⟨r.baseR,kR,r.above,λ b w e=>?_,r.imr,λ j o' h=>?_,r.dom,r.sep,r.off,?_,hg.trans r.gens,ho.trans r.os,trivial⟩
 ·exact(r.im b w e).mono .rfl λ o' h=>k b o' (by rintro rfl;rw [f.im]at e;cases e) h
 ·refine E22 (r.mu j o' h) λ b e e1 z=>?_
  obtain⟨n1,n2⟩:=f.mu j b e e1
  exact⟨b,e,e1,z.mono .rfl (λ o h=>k b o n1 h) λ o h=>k e o n2 h⟩
 ·refine r.fr.keep' .rfl kR r.res (λ b o hb h=>k b o ?_ h) λ b hb=>(r.fr.own b hb).2
  rcases hb with rfl | ⟨_,x,_,hx⟩
  ·exact λ e=>f.own.1 e.symm
  ·rintro rfl;exact f.own.2 x hx
noncomputable def reserve (R:Nat->Option Obj)(h:Heap)(its:List Nat):Nat->Option Obj:=λ a=>if a∈its then h.get? a else R a
theorem zbr {h:Heap}{its:List Nat}{a:Nat}(ha:a∈its):reserve R h its a=h.get? a:=by unfold reserve;rw [aB ha]
theorem zai {h:Heap}{its:List Nat}{a:Nat}(ha:a∉its):reserve R h its a=R a:=by unfold reserve;rw [aw ha]
theorem zc9 {h:Heap}{its:List Nat}{a:Nat}{o:Obj}(hR:∀ b∈its,R b=none)(e:R a=some o):reserve R h its a=some o:=by
 rw [zai λ q=>by rw [hR a q]at e;cases e];exact e
theorem Own.unreserve {h:Heap}{its:List Nat}{a:Nat}(has:∀ b∈its,∃ o,h.get? b=some o)(x:Own (Internal.reserve R h its) env a):a∉its/\Own R env a∨a=env.locals:=by
 rcases x with rfl | ⟨hR,x,e,hx⟩
 ·exact .inr rfl
 ·have ne:a∉its:=λ q=>by
   obtain⟨o,ho⟩:=has a q
   rw [zbr q,ho]at hR;cases hR
  rw [zai ne]at hR
  exact .inl ⟨ne,.inr ⟨hR,x,e,hx⟩⟩
theorem Rep.reserve {g:Gh}{s:Shared}{its:List Nat}(r:Rep X R env ρ g μ s)(f:∀ a∈its,Fre R env g a)(has:∀ b∈its,∃ o,s.heap.get? b=some o):Rep X (Internal.reserve R s.heap its) env ρ g μ s:=by
 have hR:∀ b∈its,R b=none:=λ b hb=>(f b hb).R
 have rn:∀ {a},a∉its->R a=none->Internal.reserve R s.heap its a=none:=λ ne h=>by rw [zai ne];exact h
 have cne:∀ x c,env.cells.lookup x=some c->c∉its:=λ x c hc q=>(f c q).own.2 x hc
 refine⟨λ b o' h=>zc9 hR (r.baseR b o' h),λ a o' h=>?_,r.above,r.im,λ a v h=>(r.imr a v h).imp (rn λ q=>by rw [(f a q).im]at h;cases h) id,r.mu,r.dom,r.sep,λ k a d h=>?_,?_,r.gens,r.os,r.drawn⟩
 ·by_cases q:a∈its
  ·rw [zbr q]at h;exact h
  ·rw [zai q]at h;exact r.res a o' h
 ·refine E04 (r.off k a d h) λ h1 h2 h3 h4=>?_
  exact⟨h1,h2,rn (λ q=>((f a q).mu k a d h).1 rfl) h3,rn (λ q=>((f d q).mu k a d h).2 rfl) h4⟩
 ·have q:=r.fr
  refine⟨q.kind,q.glob,q.blt,q.ns,q.cell,λ x y c e hc hy hR=>?_,q.off,λ a ha=>?_,λ hf x c e hc=>rn (cne x c hc) (q.mine hf x c e hc),λ x c e hc=>?_,q.ck,q.nodup,q.vals⟩
  ·rw [zai (cne x c hc)]at hR;exact q.apart x y c e hc hy hR
  ·rcases Own.unreserve has ha with ⟨ne,ha⟩ | rfl
   ·obtain⟨h1,h2⟩:=q.own a ha;exact⟨rn ne h1,h2⟩
   ·obtain⟨h1,h2⟩:=q.own _ (.inl rfl);exact⟨rn (λ q=>(f _ q).own.1 rfl) h1,h2⟩
  ·obtain⟨o',h⟩:=q.free x c e hc;exact⟨o',zc9 hR h⟩
theorem Rep.unreserve {g:Gh}{s:Shared}{h:Heap}{its:List Nat}(r:Rep X (Internal.reserve R h its) env ρ g μ s)(has:∀ b∈its,∃ o,h.get? b=some o)(hR:∀ b∈its,R b=none)(hb:∀ b o,X.base.get? b=some o->R b=some o)(hfree:∀ x c,env.kindOf x=some .free->env.cells.lookup x=some c->∃ o,R c=some o)
  (hown:∀ b∈its,b≠env.locals/\∀ x,env.cells.lookup x≠some b):Rep X R env ρ g μ s/\(∀ b∈its,s.heap.get? b=h.get? b)/\∀ b∈its,Fre R env g b:=by
 have rn:∀ {a},Internal.reserve R h its a=none->a∉its/\R a=none:=λ {a} e=>by
  by_cases q:a∈its
  ·obtain⟨o,ho⟩:=has a q;rw [zbr q,ho]at e;cases e
  ·rw [zai q]at e;exact⟨q,e⟩
 have cne:∀ x c,env.cells.lookup x=some c->c∉its:=λ x c hc q=>(hown c q).2 x hc
 have f0:∀ {a},Own R env a->Own (Internal.reserve R h its) env a:=λ {a} h=>by
  rcases h with rfl | ⟨hR',x,e,hx⟩
  ·exact .inl rfl
  ·exact .inr ⟨by rw [zai (cne x _ hx)];exact hR',x,e,hx⟩
 refine⟨⟨hb,λ a o' h=>r.res a o' (zc9 hR h),r.above,r.im,λ a v h=>(r.imr a v h).imp (λ e=>(rn e).2) id,r.mu,r.dom,r.sep,λ k a d h=>?_,?_,r.gens,r.os,r.drawn⟩,λ b hb=>?_,λ it hit=>⟨hR it hit,?_,λ k p d h=>?_,hown it hit⟩⟩
 ·refine E04 (r.off k a d h) λ h1 h2 h3 h4=>?_
  exact⟨h1,h2,(rn h3).2,(rn h4).2⟩
 ·have q:=r.fr
  refine⟨q.kind,q.glob,q.blt,q.ns,q.cell,λ x y c e hc hy hR=>q.apart x y c e hc hy ?_,q.off,λ a ha=>?_,λ hf x c e hc=>(rn (q.mine hf x c e hc)).2,hfree,q.ck,q.nodup,q.vals⟩
  ·rw [zai (cne x c hc)];exact hR
  ·obtain⟨h1,h2⟩:=q.own a (f0 ha);exact⟨(rn h1).2,h2⟩
 ·obtain⟨o,ho⟩:=has b hb
  rw [ho]
  exact r.res b o (by rw [zbr hb];exact ho)
 ·induction e:g.im it with
  | none=>rfl
  | some v =>
   exfalso
   rcases r.imr it v e with h | h
   ·exact(rn h).1 hit
   ·induction hb':X.base.get? it with
    | none=>exact h hb'
    | some o'=>have:=hR it hit;rw [hb _ _ hb']at this;cases this
 ·refine E04 (r.off k p d h) λ h1 h2 h3 h4=>?_
  exact⟨λ e=>(rn h3).1 (e▸hit),λ e=>(rn h4).1 (e▸hit)⟩
theorem Fre.reserve {g:Gh}{h:Heap}{its:List Nat}{n:Nat}(f:Fre R env g n)(hn:n∉its):Fre (Internal.reserve R h its) env g n:=⟨by rw [zai hn];exact f.R,f.im,f.mu,f.own⟩
theorem Fre.unreserve' {g:Gh}{h:Heap}{its:List Nat}{n:Nat}(f:Fre (Internal.reserve R h its) env g n)(hR:R n=none):Fre R env g n:=⟨hR,f.im,f.mu,f.own⟩
theorem Rep.buts {g:Gh}{s s':Shared}{its:List Nat}(r:Rep X R env ρ g μ s)(f:∀ a∈its,Fre R env g a)(k:∀ b o,b∉its->s.heap.get? b=some o->s'.heap.get? b=some o)(hg:s'.gens=s.gens)(ho:s'.os=s.os)(hd:s'.drawn=s.drawn):Rep X R env ρ g μ s':=by
 have kR:∀ b o,R b=some o->s'.heap.get? b=some o:=λ b o h=>k b o (λ q=>by rw [(f b q).R]at h;cases h) (r.res b o h)
 refine⟨r.baseR,kR,r.above,λ b w e=>?_,r.imr,λ j o' h=>?_,r.dom,r.sep,r.off,?_,hg.trans r.gens,ho.trans r.os,trivial⟩
 ·exact(r.im b w e).mono .rfl λ o' h=>k b o' (λ q=>by rw [(f b q).im]at e;cases e) h
 ·refine E22 (r.mu j o' h) λ b e e1 z=>?_
  exact⟨b,e,e1,z.mono .rfl (λ o h=>k b o (λ q=>((f b q).mu j b e e1).1 rfl) h) λ o h=>k e o (λ q=>((f e q).mu j b e e1).2 rfl) h⟩
 ·refine r.fr.keep' .rfl kR r.res (λ b o hb h=>k b o (λ q=>?_) h) λ b hb=>(r.fr.own b hb).2
  rcases hb with rfl | ⟨_,x,_,hx⟩
  ·exact(f _ q).own.1 rfl
  ·exact(f b q).own.2 x hx
end
abbrev ba:=@AT.name
abbrev bJ:=@XB.step
abbrev cg:=@XB.nil
section
variable {X:Ctx}{l:Nat}{R:Nat->Option Obj}{env:Env}{ρ:Loc}{μ:Mem}
noncomputable def plainIter (n:String):Bool:=!(["enumerate","zip","dict_itemiterator","dict_reverseitemiterator","odict_iterator","itertools.zip_longest","itertools.pairwise"].contains n) && n != "tuple" && n != "list"
set_option tactic.hygienic true in
theorem letOwned {A:Around}{E:Value->Shared->Prop}{s:Shared}{target:Expr}{it:Nat}{v:Value}{o:Obj}{n:String}{Q:Unit->Shared->Prop}(ho:s.heap.get? it=some o)(hc:o.cls = .type n)(hn:plainIter n=true)
  (h:Q () s):wpAny (model X.prog X.w) A (letOwnedTupleGo target (.ref it) v) Q E s:=by
 have hn':(["enumerate","zip","dict_itemiterator","dict_reverseitemiterator","odict_iterator","itertools.zip_longest","itertools.pairwise"].contains n)=false:=by
  unfold plainIter at hn
  simp only [bl,Bool.not_eq_true']at hn
  exact hn.1.1
 have body:wpAny (model X.prog X.w) A (do
   let (.ref r,.ref a):=(Value.ref it,v) | return
   let o <- load r
   match o.cls,o.data with
   | .type n,.fields vs =>
    if ["enumerate","zip","dict_itemiterator","dict_reverseitemiterator","odict_iterator","itertools.zip_longest","itertools.pairwise"].contains n && vs[0]? == some (rawInt a)then
     rule "for.unpacks-the-owned-tuple"
     updateField r 0 .none
   | _,_=>pure ()) Q E s:=by
  cases v <;> first | exact ai h | skip
  refine ag (wpAny_load ho ?_)
  rw [hc]
  cases o.data <;> first | exact ai h | (refine cE (λ e=>?_) λ e=>ai h;rw [hn',Bool.false_and]at e;exact absurd e (by decide))
 cases target <;> first | exact ai h | exact body
inductive StpN (X:Ctx)(R:Nat->Option Obj)(env:Env)(ρ:Loc)(g:Gh)(μ:Mem)(its:List Nat)(P:Heap->Nat->Prop)(z:V)(i:Nat)(v:Value)(dq:Shared):Prop
 | mk (g':Gh) (le:g.le g') (r:Rep X R env ρ g' μ dq) (vr:VR g' z v) (p:P dq.heap (i+1)) (f:∀ a∈its,Fre R env g' a):StpN X R env ρ g μ its P z i v dq
inductive StpV (X:Ctx)(A:Around)(target:Expr)(it:Nat)(Post:Value->Shared->Prop)(r:Option Value)(s':Shared):Prop
 | mk (v:Value) (e:r=some v) (h:wpAny (model X.prog X.w) A (letOwnedTupleGo target (.ref it) v) (λ Y dq=>Post v dq) (λ Y Y=>False) s'):StpV X A target it Post r s'
inductive StpO (X:Ctx)(R:Nat->Option Obj)(env:Env)(ρ:Loc)(g:Gh)(μ:Mem)(it:Nat)(P:Obj->Nat->Prop)(z:V)(i:Nat)(r:Option Value)(s':Shared):Prop
 | mk (v:Value) (o':Obj) (e:r=some v) (r':Rep X R env ρ g μ s') (vr:VR g z v) (ho:s'.heap.get? it=some o') (p:P o' (i+1)):StpO X R env ρ g μ it P z i r s'
structure Stp (X:Ctx)(it:Nat)(its:List Nat)(P:Heap->Nat->Prop)(xs:List V)(src:Gh->Prop)(ok:Mem->Prop)(okT:Expr->Prop):Prop where
 up:∀ g g',g.le g'->src g->src g'
 look:∀ h h' i,(∀ a∈its,h'.get? a=h.get? a)->P h i->P h' i
 has:∀ h i,P h i->∀ a∈its,∃ o,h.get? a=some o
 item:∀ {R:Nat->Option Obj} {env:Env} {ρ:Loc} {g:Gh} {μ:Mem} {s:Shared} {A:Around} {l i:Nat} {z:V} {target:Expr},okT target->AOk X A l->Rep X R env ρ g μ s->src g->ok μ->(∀ a∈its,Fre R env g a)->P s.heap i->xs[i]? = some z ->
  wpAny (model X.prog X.w) A (pyNext (.ref it)) (StpV X A target it (StpN X R env ρ g μ its P z i)) (λ Y Y=>False) s
 done:∀ {R:Nat->Option Obj} {env:Env} {ρ:Loc} {g:Gh} {μ:Mem} {s:Shared} {A:Around} {l i:Nat},AOk X A l->Rep X R env ρ g μ s->src g->ok μ->(∀ a∈its,Fre R env g a)->P s.heap i->i=xs.length ->
  wpAny (model X.prog X.w) A (pyNext (.ref it)) (λ r s'=>r=none/\Rep X R env ρ g μ s') (λ Y Y=>False) s
 self:∀ {A:Around} {s:Shared} {i:Nat} {Q:Value->Shared->Prop},P s.heap i->Q (.ref it) s->wpAny (model X.prog X.w) A (pyIter (.ref it)) Q (λ Y Y=>False) s
theorem Stp.one {it:Nat}{P:Obj->Nat->Prop}{xs:List V}{src:Gh->Prop}{ok:Mem->Prop}(up:∀ g g',g.le g'->src g->src g')(cls:∀ o i,P o i->∃ n,o.cls = .type n/\plainIter n=true)
  (item:∀ {R:Nat->Option Obj} {env:Env} {ρ:Loc} {g:Gh} {μ:Mem} {s:Shared} {A:Around} {l i:Nat} {z:V} {o:Obj},AOk X A l->Rep X R env ρ g μ s->src g->ok μ->Fre R env g it->s.heap.get? it=some o->P o i->xs[i]? = some z ->
   wpAny (model X.prog X.w) A (pyNext (.ref it)) (StpO X R env ρ g μ it P z i) (λ Y Y=>False) s)
  (done:∀ {R:Nat->Option Obj} {env:Env} {ρ:Loc} {g:Gh} {μ:Mem} {s:Shared} {A:Around} {l i:Nat} {o:Obj},AOk X A l->Rep X R env ρ g μ s->src g->ok μ->Fre R env g it->s.heap.get? it=some o->P o i->xs[i]? = none ->
   wpAny (model X.prog X.w) A (pyNext (.ref it)) (λ r s'=>r=none/\Rep X R env ρ g μ s') (λ Y Y=>False) s)
  (self:∀ {A:Around} {s:Shared} {i:Nat} {o:Obj} {Q:Value->Shared->Prop},s.heap.get? it=some o->P o i->Q (.ref it) s->wpAny (model X.prog X.w) A (pyIter (.ref it)) Q (λ Y Y=>False) s) :
  Stp X it [it] (λ h i=>∃ o,h.get? it=some o/\P o i) xs src ok λ Y=>True:=by
 refine⟨up,λ h h' i k ⟨o,ho,p⟩=>⟨o,(k it (.head _)).trans ho,p⟩,λ h i ⟨o,ho,_⟩ a ha=>?_,?_,?_,?_⟩
 ·cases List.mem_singleton.mp ha;exact⟨o,ho⟩
 ·intro R env ρ g μ s A l i z target _ a r hs hok f ⟨o,ho,p⟩ hz
  refine am (item a r hs hok (f it (.head _)) ho p hz) (λ r' dr ⟨v,o',e,dz,vr,ho',p'⟩=>⟨v,e,?_⟩) λ Y Y e=>e
  refine E12 (cls _ _ p') λ n hc hn=>?_
  exact letOwned ho' hc hn ⟨g,.rfl,dz,vr,⟨o',ho',p'⟩,f⟩
 ·intro R env ρ g μ s A l i a r hs hok f ⟨o,ho,p⟩ hz
  exact done a r hs hok (f it (.head _)) ho p (by rw [hz];exact bT (an _))
 ·intro A s i Q ⟨o,ho,p⟩ h;exact self ho p h
theorem Fre.newest {g:Gh}{s:Shared}(r:Rep X R env ρ g μ s){n:Nat}(hn:s.heap.objs.size<=n)(hc:∀ x (c:Nat),env.cells.lookup x=some c->c < s.heap.objs.size):Fre R env g n:=by
 refine⟨r.R_none hn,r.im_none hn,λ k p d h=>?_,?_,λ x h=>?_⟩
 ·have:=r.mu_lt h;constructor <;> (first | exact aF (au (And.right ‹_›) ‹_›) | exact aF (au (And.left ‹_›) ‹_›) | omega)
 ·exact(aF (au (r.own_lt (.inl rfl)) hn)).symm
 ·exact absurd (au (hc x n h) hn) (bj _)
inductive LoopI (X:Ctx)(R:Nat->Option Obj)(env:Env)(g:Gh)(its:List Nat)(P:Heap->Nat->Prop)(len n:Nat)(Inv:Nat->Loc->Mem->Prop)(m:Nat)(s':Shared):Prop
 | mk (i:Nat) (g':Gh) (dm:Loc) (dl:Mem) (e:m=len - i) (hi:i<=n) (le:g.le g') (r:Rep X R env dm g' dl s') (f:∀ a∈its,Fre R env g' a) (p:P s'.heap i) (inv:Inv i dm dl):LoopI X R env g its P len n Inv m s'
theorem zjl {it:Nat}{its:List Nat}{P:Heap->Nat->Prop}{xs:List V}{src:Gh->Prop}{ok:Mem->Prop}{okT:Expr->Prop}(S:Stp X it its P xs src ok okT){target:Expr}(hT:okT target){b:List Stmt}{Q:Fl->Loc->Mem->Prop}(Inv:Nat->Loc->Mem->Prop)
  (hok:∀ i dm dl,Inv i dm dl->ok dl)
  (turn:∀ R' i z dm dl,xs[i]? = some z->Inv i dm dl->AT X l R' env dm dl target z λ dN dp=>XB X l R' env dN dp b λ fl dL dt=>(fl = .next->Inv (i+1) dL dt)/\(∀ x,fl = .ret x->Q (.ret x) dL dt))
  (fin:∀ dm dl,Inv xs.length dm dl->Q .next dm dl) {g:Gh} {A:Around} {s:Shared} (a:AOk X A l) (r:Rep X R env ρ g μ s) (hs:src g) (f:∀ a∈its,Fre R env g a) (hp:P s.heap 0) (h:Inv 0 ρ μ) :
  codeAny (model X.prog X.w) A (.forLoop target (.ref it) b [] env) (λ res s'=>match res with | .ok f=>SPst X R env g Q f s' | .error _=>False) s:=by
 refine codeAny_forLoop_any (LoopI X R env g its P xs.length xs.length Inv) ?_ xs.length
  ⟨0,g,ρ,μ,by simp_all,bR _,.rfl,r,f,hp,h⟩
 rintro n s' ⟨i,g',dm,dl,rfl,hi,le,r',f',hp',inv⟩
 have hs':=S.up _ _ le hs
 induction hz:xs[i]? with
 | none =>
  have hi':i=xs.length:=by have:=List.getElem?_eq_none_iff.mp hz;exact bV ‹_› ‹_›
  subst hi'
  refine am (S.done a r' hs' (hok _ _ _ inv) f' hp' rfl) (λ res dr hh=>?_) λ Y Y e=>e.elim
  obtain⟨e,dz⟩:=hh
  subst e
  exact ai ⟨g',dm,dl,.next,le,dz,rfl,fin _ _ inv⟩
 | some z =>
  refine am (S.item hT a r' hs' (hok _ _ _ inv) f' hp' hz) (λ res dr hh=>?_) λ Y Y e=>e.elim
  obtain⟨v,e,hl⟩:=hh
  subst e
  refine am hl (λ Y dr hh=>?_) λ Y Y e=>e.elim
  obtain⟨du,dy,dz,vr,eQ,eH⟩:=hh
  have has:=S.has _ _ eQ
  have dv:=dz.reserve eH has
  refine am (turn _ i z dm dl hz inv du v A dr vr a dv) (λ Y dq hh=>?_) λ Y Y e=>e.elim
  obtain⟨dC,dL,dt,dB,dS,hb⟩:=hh
  refine am (hb dC A dq a dS) (λ fl d6 hh=>?_) λ Y Y e=>e.elim
  obtain⟨d8,eI,dK,fl',dU,d9,hf,q1,q2⟩:=hh
  obtain⟨eG,eR,fk⟩:=d9.unreserve has (λ b hb=>(eH b hb).R) r.baseR r.fr.free λ b hb=>(eH b hb).own
  have lt:=((le.trans dy).trans dB).trans dU
  induction fl' with
  | next =>
   cases hf
   have hlt:i < xs.length:=(List.getElem?_eq_some_iff.mp hz).1
   exact⟨xs.length - (i+1),by exact Nat.sub_lt_sub_left ‹_› (bw _),i+1,d8,eI,dK,rfl,hlt,lt,eG,fk,S.look _ _ _ eR eQ,q1 rfl⟩
  | ret x=>obtain⟨w,rfl,vw⟩:=hf;exact⟨d8,eI,dK,.ret x,lt,eG,⟨w,rfl,vw⟩,q2 x rfl⟩
inductive ITp (X:Ctx)(R:Nat->Option Obj)(env:Env)(ρ:Loc)(g:Gh)(μ:Mem)(xs:List V)(ok:Mem->Prop)(okT:Expr->Prop)(r:Value)(s':Shared):Prop
 | mk (it:Nat) (its:List Nat) (P:Heap->Nat->Prop) (src:Gh->Prop) (g':Gh):r = .ref it->g.le g'->Rep X R env ρ g' μ s'->Stp X it its P xs src ok okT->src g'->(∀ a∈its,Fre R env g' a)->P s'.heap 0->ITp X R env ρ g μ xs ok okT r s'
noncomputable def IT (X:Ctx)(l:Nat)(R:Nat->Option Obj)(env:Env)(ρ:Loc)(μ:Mem)(x:V)(xs:List V)(ok:Mem->Prop)(okT:Expr->Prop):Prop :=
 ∀ g v A s,VR g x v->AOk X A l->Rep X R env ρ g μ s->ok μ->wpAny (model X.prog X.w) A (pyIter v) (ITp X R env ρ g μ xs ok okT) (λ Y Y=>False) s
theorem zaM {g:Gh}{s:Shared}(r:Rep X R env ρ g μ s):∀ x c,env.cells.lookup x=some c->c < s.heap.objs.size:=λ x c hc=>by
 rcases r.fr.ck x c hc with e | e
 ·refine E22 (r.fr.cell x e) λ c' v hc' q7=>?_;obtain⟨o,ho,_⟩:=q7;rw [hc]at hc';cases hc';exact aO ho
 ·obtain⟨o,hR⟩:=r.fr.free x c e hc;exact r.lt_R hR
inductive WIp (X:Ctx)(R:Nat->Option Obj)(env:Env)(ρ:Loc)(g:Gh)(Q:List V->(Mem->Prop)->(Expr->Prop)->Mem->Prop)(r:Value)(s':Shared):Prop
 | mk (it:Nat) (its:List Nat) (P:Heap->Nat->Prop) (src:Gh->Prop) (g':Gh) (dl:Mem) (xs:List V) (ok:Mem->Prop) (okT:Expr->Prop):r = .ref it->g.le g'->Rep X R env ρ g' dl s'->Stp X it its P xs src ok okT->src g'->(∀ a∈its,Fre R env g' a)->P s'.heap 0->Q xs ok okT dl->WIp X R env ρ g Q r s'
noncomputable def WIt (X:Ctx)(l:Nat)(R:Nat->Option Obj)(env:Env)(ρ:Loc)(μ:Mem)(e:Expr)(Q:List V->(Mem->Prop)->(Expr->Prop)->Mem->Prop):Prop :=
 ∀ g A s,AOk X A l->Rep X R env ρ g μ s->wpAny (model X.prog X.w) A (eval e env) (λ v dr=>wpAny (model X.prog X.w) A (pyIter v) (WIp X R env ρ g Q) (λ Y Y=>False) dr) (λ Y Y=>False) s
theorem WIt.mono {e:Expr}{Q Q':List V->(Mem->Prop)->(Expr->Prop)->Mem->Prop}(h:WIt X l R env ρ μ e Q)(k:∀ xs ok okT μ,Q xs ok okT μ->Q' xs ok okT μ):WIt X l R env ρ μ e Q':=by
 intro g A s a r
 refine am (h g A s a r) (λ v dr dw=>?_) λ Y Y e=>e
 refine am dw (λ r dq dJ=>?_) λ Y Y e=>e
 obtain⟨it,its,P,src,g',dl,xs,ok,okT,h1,h2,h3,h4,h5,h6,h7,q⟩:=dJ
 exact⟨it,its,P,src,g',dl,xs,ok,okT,h1,h2,h3,h4,h5,h6,h7,k _ _ _ _ q⟩
inductive KIt (X:Ctx)(l:Nat)(R:Nat->Option Obj)(env:Env)(ρ:Loc)(Q:List V->(Mem->Prop)->(Expr->Prop)->Mem->Prop)(x:V)(dp:Mem):Prop
 | mk (xs:List V) (ok:Mem->Prop) (okT:Expr->Prop):IT X l R env ρ dp x xs ok okT->ok dp->Q xs ok okT dp->KIt X l R env ρ Q x dp
theorem WIt.of {e:Expr}{Q:List V->(Mem->Prop)->(Expr->Prop)->Mem->Prop}(h:W X l R env ρ μ e (KIt X l R env ρ Q)):WIt X l R env ρ μ e Q:=by
 intro g A s a r
 refine am (h g A s a r) (λ v dr dw=>?_) λ Y Y e=>e
 obtain⟨du,dp,dy,dz,x,vx,xs,ok,okT,hit,hok,q⟩:=dw
 refine am (hit du v A dr vx a dz hok) (λ it dq dJ=>?_) λ Y Y e=>e
 obtain⟨i,its,P,src,dC,e,dB,dv,S,hs,fr,hp⟩:=dJ
 exact⟨i,its,P,src,dC,dp,xs,ok,okT,e,dy.trans dB,dv,S,hs,fr,hp,q⟩
inductive KF (X:Ctx)(l:Nat)(env:Env)(ρ:Loc)(target:Expr)(b:List Stmt)(Q:Fl->Loc->Mem->Prop)(xs:List V)(ok:Mem->Prop)(okT:Expr->Prop)(dp:Mem):Prop
 | mk (hT:okT target) (Inv:Nat->Loc->Mem->Prop) (hok:∀ i dm dl,Inv i dm dl->ok dl) (h0:Inv 0 ρ dp)
   (turn:∀ R' i z dm dl,xs[i]? = some z->Inv i dm dl->AT X l R' env dm dl target z λ dN dp=>XB X l R' env dN dp b (Trn Inv i Q))
   (fin:∀ dm dl,Inv xs.length dm dl->Q .next dm dl):KF X l env ρ target b Q xs ok okT dp
theorem XS.for_ {target iter:Expr}{b:List Stmt}{pos:Pos}{Q:Fl->Loc->Mem->Prop}
  (h:WIt X l R env ρ μ iter (KF X l env ρ target b Q))
  (hf:(λ x=>pure x)=foldedSetIterable iter env:=by exact rfl):XS X l R env ρ μ (.For target iter b [] pos) Q:=by
 intro g A s a r
 refine wpAny_For (am (h g A s a r) (λ v dr dw=>?_) λ Y Y e=>e) λ x=>(congrFun hf x).symm
 refine am dw (λ it dq dJ=>?_) λ Y Y e=>e
 obtain⟨i,its,P,src,dC,dp,xs,ok,okT,e,dB,dv,S,hs,fr,hp,hT,Inv,hok,h0,turn,fin⟩:=dJ
 subst e
 refine codeAny_mono (zjl S hT Inv hok turn fin a dv hs fr hp h0) λ res d6 hres=>?_
 induction res with
 | error e=>exact hres.elim
 | ok f=>obtain⟨g',dm,dl,fl,le,r',hf',q⟩:=hres;exact⟨g',dm,dl,fl,dB.trans le,r',hf',q⟩
theorem IT.list {x:V}{xs:List V}:IT X l R env ρ μ x xs (λ dl=>RdL dl x xs) (λ Y=>True):=by
 intro g v A s vr a r hx
 refine E23 (r.list hx vr) λ b items q9 hl hv=>?_;subst q9
 refine wpAny_pyIter_list hl.isList ?_
 refine⟨s.heap.objs.size,[s.heap.objs.size],_,λ g'=>VR g' x (.ref b),g,rfl,.rfl,r.push _,.one (P:=λ o i=>o.cls = .type "list_iterator" /\ o.data = .fields #[.ref b,.int i 0]) (λ du dC le h=>h.mono le) (λ o i h=>⟨_,h.1,by decide⟩) ?_ ?_ ?_,vr,λ a ha=>?_,_,aJ _ rfl,rfl,rfl⟩
 ·intro R env ρ g μ s A l i z o a r vr hx f ho hp hz
  refine E23 (r.list hx vr) λ b' items e hl hv=>?_
  cases e
  refine E12 (hv.getA hz) λ w hw wr=>?_
  refine wpAny_pyNext_list_item (i:=i) ⟨o,ho,hp.1,hp.2⟩ hl.isList hw λ h' hi hs=>?_
  refine E13 (hi) λ o' ho' hc' hd'=>?_
  exact⟨w,o',rfl,r.but f (λ b o ne h=>(hs.2 b ne).trans h) rfl rfl rfl,wr,ho',hc',hd'⟩
 ·intro R env ρ g μ s A l i o a r vr hx f ho hp hz
  refine E23 (r.list hx vr) λ b' items e hl hv=>?_
  cases e
  have hn:items[i]? = none:=by
   have:=hv.length
   have h2:=List.getElem?_eq_none_iff.mp hz
   simp only [aE]at this
   exact Array.getElem?_eq_none_iff.mpr (by exact nT (aG (bo ‹_›)) ‹_›)
  exact wpAny_pyNext_list_end a.handled ⟨o,ho,hp.1,hp.2⟩ hl.isList hn λ h' hx=>⟨rfl,r.but f (λ b o ne h=>hx b o ne h) rfl rfl rfl⟩
 ·intro A s i o Q ho hp h;exact wpAny_pyIter_listiter ⟨o,ho,hp.1,hp.2⟩ h
 ·cases List.mem_singleton.mp ha;exact .newest r (an _) (zaM r)
theorem IT.tup {xs:List V}:IT X l R env ρ μ (.tup xs) xs (λ Y=>True) (λ Y=>True):=by
 intro g v A s vr a r hx
 refine E23 (r.tup vr) λ b items q9 hl hv=>?_;subst q9
 refine wpAny_pyIter_tuple hl ?_
 refine⟨s.heap.objs.size,[s.heap.objs.size],_,λ g'=>VR g' (.tup xs) (.ref b),g,rfl,.rfl,r.push _,.one (P:=λ o i=>o.cls = .type "tuple_iterator" /\ o.data = .fields #[.ref b,.int i 0]) (λ du dC le h=>h.mono le) (λ o i h=>⟨_,h.1,by decide⟩) ?_ ?_ ?_,vr,λ a ha=>?_,_,aJ _ rfl,rfl,rfl⟩
 ·intro R env ρ g μ s A l i z o a r vr hx f ho hp hz
  refine E23 (r.tup vr) λ b' items e hl hv=>?_
  cases e
  refine E12 (hv.getA hz) λ w hw wr=>?_
  refine wpAny_pyNext_tuple_item (i:=i) ⟨o,ho,hp.1,hp.2⟩ hl hw λ h' hi hs=>?_
  refine E13 (hi) λ o' ho' hc' hd'=>?_
  exact⟨w,o',rfl,r.but f (λ b o ne h=>(hs.2 b ne).trans h) rfl rfl rfl,wr,ho',hc',hd'⟩
 ·intro R env ρ g μ s A l i o a r vr hx f ho hp hz
  refine E23 (r.tup vr) λ b' items e hl hv=>?_
  cases e
  have hn:items[i]? = none:=by
   have:=hv.length
   have h2:=List.getElem?_eq_none_iff.mp hz
   simp only [aE]at this
   exact Array.getElem?_eq_none_iff.mpr (by exact nT (aG (bo ‹_›)) ‹_›)
  exact wpAny_pyNext_tuple_end a.handled ⟨o,ho,hp.1,hp.2⟩ hl hn λ h' hx=>⟨rfl,r.but f (λ b o ne h=>hx b o ne h) rfl rfl rfl⟩
 ·intro A s i o Q ho hp h;exact wpAny_pyIter_tupleiter ⟨o,ho,hp.1,hp.2⟩ h
 ·cases List.mem_singleton.mp ha;exact .newest r (an _) (zaM r)
end
abbrev cA:=@WIt.of
abbrev cY:=@IT.list
section
variable {X:Ctx}{l:Nat}{R:Nat->Option Obj}{env:Env}{ρ:Loc}{μ:Mem}
noncomputable def WIfs (X:Ctx)(l:Nat)(R:Nat->Option Obj)(env:Env)(ρ:Loc)(μ:Mem)(ifs:List Expr)(Q:Bool->Mem->Prop):Prop :=
 ∀ g,Tr X l R env ρ g μ (forIn ifs true λ c r=>if r=true then do let ok <- isTrue c env (eval c env);pure (ForInStep.yield ok)else pure (ForInStep.yield r)) λ Y b dl=>Q b dl
theorem WIfs.nil {Q:Bool->Mem->Prop}(h:Q true μ):WIfs X l R env ρ μ [] Q:=λ g A s a r=>ai ⟨g,μ,.rfl,r,h⟩
theorem WIfs.one {c:Expr}{Q:Bool->Mem->Prop}(h:WB X l R env ρ μ c Q):WIfs X l R env ρ μ [c] Q:=λ g A s a r=>wpAny_tests_one (h g A s a r)
inductive BPst (X:Ctx)(R:Nat->Option Obj)(env:Env)(g:Gh)(D:Nat)(Q:List V->Loc->Mem->Prop)(s':Shared):Prop
 | mk (g':Gh) (dm:Loc) (dl:Mem) (items':Array Value) (ys':List V):g.le g'->Rep X R env dm g' dl s'->Fre R env g' D->s'.heap.PlainList D items'->VRs g' ys' items'.toList->Q ys' dm dl->BPst X R env g D Q s'
noncomputable def BodyOk (X:Ctx)(l:Nat)(env:Env)(ρ:Loc)(μ:Mem)(body:Sem Unit)(D:Nat)(ys:List V)(Q:List V->Loc->Mem->Prop):Prop :=
 ∀ R g A s items,AOk X A l->Rep X R env ρ g μ s->Fre R env g D->s.heap.PlainList D items->VRs g ys items.toList ->
  wpAny (model X.prog X.w) A body (λ Y s'=>BPst X R env g D Q s') (λ Y Y=>False) s
noncomputable def gTurn (gc:Comprehension)(body:Sem Unit)(e:Expr)(depth:Nat)(it acc:Value)(env:Env):Sem Fin:=do
 standAt gc.iter.pos
 match <- pyNext it with
 | none=>pure (.done .next)
 | some v =>
  letOwnedTupleGo gc.target it v
  assign gc.target env v
  let mut ok:=true
  for c in gc.ifs do
   if ok then ok <- isTrue c env (eval c env)
  if ok then
   body
  again (.compLoop e depth it acc env)
inductive CInv (X:Ctx)(R:Nat->Option Obj)(env:Env)(g:Gh)(its:List Nat)(P:Heap->Nat->Prop)(D:Nat)(N:Nat)(Inv:Nat->List V->Loc->Mem->Prop)(n:Nat)(s':Shared):Prop
 | mk (i:Nat) (g':Gh) (dm:Loc) (dl:Mem) (items:Array Value) (ys:List V):n=N - i->i<=N->g.le g'->Rep X R env dm g' dl s'->(∀ a∈its,Fre R env g' a)->Fre R env g' D->P s'.heap i->s'.heap.PlainList D items->VRs g' ys items.toList->Inv i ys dm dl->CInv X R env g its P D N Inv n s'
theorem last1 (elt target iter:Expr)(ifs:List Expr)(scope:Scope)(pos:Pos)(it acc:Value)(env:Env) :
  compTurn (.ListComp elt [⟨target,iter,ifs,0⟩] scope pos) 0 it acc env=gTurn ⟨target,iter,ifs,0⟩ (do let _ <- call (.builtin "list.append") [acc,<- eval elt env]) (.ListComp elt [⟨target,iter,ifs,0⟩] scope pos) 0 it acc env:=by
 unfold compTurn gTurn
 simp only [bind_assoc]
 rfl
theorem zc5 {it D:Nat}{its:List Nat}{P:Heap->Nat->Prop}{xs:List V}{src:Gh->Prop}{ok:Mem->Prop}{okT:Expr->Prop}(S:Stp X it its P xs src ok okT){elt:Expr}{gens:List Comprehension}{scope:Scope}{pos:Pos}{gc:Comprehension}{depth:Nat}{body:Sem Unit}(hT:okT gc.target)
  (Inv:Nat->List V->Loc->Mem->Prop) {Res:Result->Shared->Prop}
  (heq:compTurn (.ListComp elt gens scope pos) depth (.ref it) (.ref D) env=gTurn gc body (.ListComp elt gens scope pos) depth (.ref it) (.ref D) env)
  (hok:∀ i ys dm dl,Inv i ys dm dl->ok dl)
  (turn:∀ R',(∀ (x:Str) (c:Nat),env.cells.lookup x=some c->R c=none->R' c=none)->∀ i z ys dm dl,xs[i]? = some z->Inv i ys dm dl->AT X l R' env dm dl gc.target z λ dN dp=>WIfs X l R' env dN dp gc.ifs λ b dt =>
   (b=true->BodyOk X l env dN dt body D ys λ ys' eI dK=>Inv (i+1) ys' eI dK)/\(b=false->Inv (i+1) ys dN dt))
  {g:Gh} {A:Around} {s:Shared} {items:Array Value} {ys:List V} (a:AOk X A l) (r:Rep X R env ρ g μ s) (hs:src g) (f:∀ a∈its,Fre R env g a) (fD:Fre R env g D) (hne:D∉its) (hp:P s.heap 0)
  (hD:s.heap.PlainList D items) (hv:VRs g ys items.toList) (h:Inv 0 ys ρ μ)
  (fin:∀ g' ys' dm dl s' items',g.le g'->Rep X R env dm g' dl s'->Fre R env g' D->s'.heap.PlainList D items'->VRs g' ys' items'.toList->Inv xs.length ys' dm dl->Res (.ok .next) s') :
  codeAny (model X.prog X.w) A (.compLoop (.ListComp elt gens scope pos) depth (.ref it) (.ref D) env) Res s:=by
 refine codeAny_loop rfl (CInv X R env g its P D xs.length Inv) ?_ xs.length
  ⟨0,g,ρ,μ,items,ys,by simp_all,bR _,.rfl,r,f,fD,hp,hD,hv,h⟩
 rintro n s' ⟨i,g',dm,dl,items,ys,rfl,hi,le,r',f',fD',hp',hD',hv',inv⟩
 show wpAny _ A ((compTurn (.ListComp elt gens scope pos) depth (.ref it) (.ref D) env).onRaise (λ x=>do noteFrame x env;theTreesLotGoes x)) _ _ s'
 refine wpAny_noted ?_
 rw [heq]
 have hs':=S.up _ _ le hs
 refine ag (cJ (ag ?_))
 obtain⟨nD,hoD⟩:=hD'
 have one:∀ b∈[D],b=D:=λ b hb=>List.mem_singleton.mp hb
 have hasD:∀ b∈[D],∃ o,s'.heap.get? b=some o:=λ b hb=>by rw [one b hb];exact⟨_,hoD⟩
 have fDs:∀ b∈[D],Fre R env g' b:=λ b hb=>by rw [one b hb];exact fD'
 have rD:=r'.reserve fDs hasD
 have hneD:∀ a∈its,a∉[D]:=λ a ha hb=>hne (one a hb▸ha)
 have f2:∀ a∈its,Fre (Internal.reserve R s'.heap [D]) env g' a:=λ a ha=>(f' a ha).reserve (hneD a ha)
 have unD:∀ {dC:Gh} {dL:Loc} {dt:Mem} {dq:Shared},Rep X (Internal.reserve R s'.heap [D]) env dL dC dt dq->Rep X R env dL dC dt dq/\dq.heap.get? D=s'.heap.get? D/\Fre R env dC D:=λ dv=>by
  obtain⟨h1,h2,h3⟩:=dv.unreserve hasD (λ b hb=>(fDs b hb).R) r'.baseR r'.fr.free λ b hb=>(fDs b hb).own
  exact⟨h1,h2 D (.head _),h3 D (.head _)⟩
 induction hz:xs[i]? with
 | none =>
  have hi':i=xs.length:=by have:=List.getElem?_eq_none_iff.mp hz;exact bV ‹_› ‹_›
  subst hi'
  refine am (S.done a rD hs' (hok _ _ _ _ inv) f2 hp' rfl) (λ res dr hh=>?_) λ Y Y e=>e.elim
  obtain⟨e,dz⟩:=hh
  subst e
  obtain⟨dv,fm,fo⟩:=unD dz
  exact ai (fin g' ys dm dl dr items le dv fo ⟨nD,fm.trans hoD⟩ hv' inv)
 | some z =>
  refine am (S.item hT a rD hs' (hok _ _ _ _ inv) f2 hp' hz) (λ res dr dw=>?_) λ Y Y e=>e.elim
  obtain⟨v,e,hlet⟩:=dw
  subst e
  have hlt:i < xs.length:=(List.getElem?_eq_some_iff.mp hz).1
  refine ag (am hlet (λ Y dr dw=>?_) λ Y Y e=>e.elim)
  obtain⟨du,dy,dz,vr,eQ,eH⟩:=dw
  have has:=S.has _ _ eQ
  have dv:=dz.reserve eH has
  have un:∀ {dC:Gh} {dL:Loc} {dt:Mem} {dq:Shared},Rep X (Internal.reserve (Internal.reserve R s'.heap [D]) dr.heap its) env dL dC dt dq->Rep X R env dL dC dt dq/\dq.heap.PlainList D items/\Fre R env dC D/\(∀ b∈its,dq.heap.get? b=dr.heap.get? b)/\∀ b∈its,Fre R env dC b:=λ dS=>by
   obtain⟨h1,h2,h3⟩:=dS.unreserve has (λ b hb=>(eH b hb).R) rD.baseR rD.fr.free λ b hb=>(eH b hb).own
   obtain⟨h4,h5,h6⟩:=unD h1
   exact⟨h4,⟨nD,h5.trans hoD⟩,h6,h2,λ b hb=>(h3 b hb).unreserve' (f' b hb).R⟩
  refine ag (am (turn _ (λ x c hx hR=>by rw [zai λ hb=>(eH c hb).own.2 x hx,zai λ hb=>(fDs c hb).own.2 x hx];exact hR) i z ys dm dl hz inv du v A dr vr a dv) (λ Y dq dJ=>?_) λ Y Y e=>e.elim)
  obtain⟨dC,dL,dt,dB,dS,hb⟩:=dJ
  refine ag (am (hb dC A dq a dS) (λ b d6 eJ=>?_) λ Y Y e=>e.elim)
  obtain⟨d8,dK,dU,d9,q1,q2⟩:=eJ
  induction b with
  | false =>
   refine E05 (un d9) λ e9 fb eX eR eS=>?_
   have ey:=((le.trans dy).trans dB).trans dU
   exact ai ⟨rfl,_,(by exact Nat.sub_lt_sub_left ‹_› (bw _):xs.length - (i+1) < xs.length - i),i+1,d8,dL,dK,items,ys,rfl,hlt,ey,e9,eS,eX,S.look _ _ _ eR eQ,fb,hv'.mono ((dy.trans dB).trans dU),q2 rfl⟩
  | true =>
   refine E05 (un d9) λ e9 fb eX eR eS=>?_
   have hasI:∀ b∈its,∃ o,d6.heap.get? b=some o:=λ b hb=>by obtain⟨o,ho⟩:=has b hb;exact⟨o,(eR b hb).trans ho⟩
   have rI:=e9.reserve eS hasI
   have fDI:Fre (Internal.reserve R d6.heap its) env d8 D:=eX.reserve λ h=>hne h
   refine ag (am (q1 rfl _ d8 A d6 items a rI fDI fb (hv'.mono ((dy.trans dB).trans dU))) (λ Y fg ed=>?_) λ Y Y e=>e.elim)
   obtain⟨eK,ft,ew,items',ys',ey,eG,fu,fv,fw,inv'⟩:=ed
   obtain⟨r₇,fy,f₇⟩:=eG.unreserve hasI (λ b hb=>(eS b hb).R) r'.baseR r'.fr.free λ b hb=>(eS b hb).own
   have lt:=(((le.trans dy).trans dB).trans dU).trans ey
   exact ai ⟨rfl,_,(by exact Nat.sub_lt_sub_left ‹_› (bw _):xs.length - (i+1) < xs.length - i),i+1,eK,ft,ew,items',ys',rfl,hlt,lt,r₇,f₇,fu.unreserve' eX.R,S.look _ _ _ (λ b hb=>(fy b hb).trans (eR b hb)) eQ,fv,fw,inv'⟩
theorem AT.mono {R:Nat->Option Obj}{t:Expr}{z:V}{Q Q':Loc->Mem->Prop}(h:AT X l R env ρ μ t z Q)(k:∀ ρ μ,Q ρ μ->Q' ρ μ):AT X l R env ρ μ t z Q' :=
 λ g v A s vr a r=>am (h g v A s vr a r) (λ Y s' q9=>by obtain⟨g',dm,dl,le,r',q⟩:=q9;exact⟨g',dm,dl,le,r',k _ _ q⟩) λ Y Y e=>e
theorem WIfs.mono {R:Nat->Option Obj}{ifs:List Expr}{Q Q':Bool->Mem->Prop}(h:WIfs X l R env ρ μ ifs Q)(k:∀ b μ,Q b μ->Q' b μ):WIfs X l R env ρ μ ifs Q' :=
 λ g=>(h g).mono λ Y Y Y Y q=>k _ _ q
theorem BodyOk.app {elt:Expr}{D:Nat}{ys:List V}{Q:List V->Loc->Mem->Prop}(h:∀ R',W X l R' env ρ μ elt λ y dK=>ys.length<=sizeLine/\Q (ys ++ [y]) ρ dK) :
  BodyOk X l env ρ μ (do let _ <- call (.builtin "list.append") [.ref D,<- eval elt env]) D ys Q:=by
 intro R g A s items a r fD hD hv
 obtain⟨nD,hoD⟩:=id hD
 have one:∀ b∈[D],b=D:=λ b hb=>List.mem_singleton.mp hb
 have hasD:∀ b∈[D],∃ o,s.heap.get? b=some o:=λ b hb=>by rw [one b hb];exact⟨_,hoD⟩
 have fDs:∀ b∈[D],Fre R env g b:=λ b hb=>by rw [one b hb];exact fD
 have rD:=r.reserve fDs hasD
 refine ag (am (h _ g A s a rD) (λ w dr hh=>?_) λ Y Y e=>e.elim)
 obtain⟨du,dp,dy,dz,y,vy,hz,q⟩:=hh
 obtain⟨dv,h2,h3⟩:=dz.unreserve hasD (λ b hb=>(fDs b hb).R) r.baseR r.fr.free λ b hb=>(fDs b hb).own
 have fc:dr.heap.PlainList D items:=⟨nD,(h2 D (.head _)).trans hoD⟩
 have hsz:items.size<=sizeLine:=by have:=hv.length;simp only [aE]at this;simp_all
 refine ag (wpAny_list_append_plain fc (λ h' hl' hsb=>ai ⟨du,ρ,dp,items.push w,ys ++ [y],dy,dv.but (h3 D (.head _)) (λ b o ne e=>(hsb.2 b ne).trans e) rfl rfl rfl,h3 D (.head _),hl',?_,q⟩) hsz)
 rw [Array.toList_push]
 exact(hv.mono dy).snoc vy
end
abbrev cR:=@WIfs.nil
section
variable {X:Ctx}{l:Nat}{R:Nat->Option Obj}{env env2:Env}{ρ dH:Loc}{g g':Gh}{μ dl:Mem}{s s2 s':Shared}
open Classical in
noncomputable def lift (R:Nat->Option Obj)(env:Env)(h:Heap):Nat->Option Obj:=λ a=>if Own R env a then h.get? a else R a
theorem zcp {h:Heap}{a:Nat}(ha:Own R env a):lift R env h a=h.get? a:=by unfold lift;rw [aB ha]
theorem zcc {h:Heap}{a:Nat}(ha:¬ Own R env a):lift R env h a=R a:=by unfold lift;rw [aw ha]
theorem Rep.not_own (r:Rep X R env ρ g μ s){a:Nat}{o:Obj}(h:R a=some o):¬ Own R env a:=λ q=>by rw [(r.fr.own a q).1]at h;cases h
theorem Rep.lift_some (r:Rep X R env ρ g μ s){h:Heap}{a:Nat}{o:Obj}(e:R a=some o):lift R env h a=some o:=by rw [zcc (r.not_own e)];exact e
theorem Rep.own_some (r:Rep X R env ρ g μ s){a:Nat}(ha:Own R env a):∃ o,s.heap.get? a=some o:=by
 rcases ha with rfl | ⟨_,x,e,hx⟩
 ·refine E42 (r.fr.ns) λ m o es ep ho _=>?_;exact⟨o,ho⟩
 ·refine E22 (r.fr.cell x e) λ c v hc q7=>?_;obtain⟨o,ho,_⟩:=q7
  rw [hx]at hc;cases hc;exact⟨o,ho⟩
theorem Rep.lifted (r:Rep X R env ρ g μ s)(r2:Rep X R env ρ g μ s2)(k:∀ a o,s.heap.get? a=some o->s2.heap.get? a=some o)(f2:FrOk (lift R env s.heap) env2 dH g s2.heap)(hab:X.base.objs.size<=env2.locals) :
  Rep X (lift R env s.heap) env2 dH g μ s2:=by
 refine⟨λ b o h=>r.lift_some (r.baseR b o h),λ a o h=>?_,hab,r2.im,λ a v h=>?_,r2.mu,r2.dom,r2.sep,λ i a d h=>?_,f2,r2.gens,r2.os,r2.drawn⟩
 ·by_cases ha:Own R env a
  ·rw [zcp ha]at h;exact k a o h
  ·rw [zcc ha]at h;exact r2.res a o h
 ·have ha:¬ Own R env a:=λ q=>by rw [(r.fr.own a q).2.1]at h;cases h
  rw [zcc ha];exact r.imr a v h
 ·refine E04 (r.off i a d h) λ h1 h2 h3 h4=>?_
  have na:¬ Own R env a:=λ q=>((r.fr.own a q).2.2 i a d h).1 rfl
  have nd:¬ Own R env d:=λ q=>((r.fr.own d q).2.2 i a d h).2 rfl
  exact⟨h1,h2,by rw [zcc na];exact h3,by rw [zcc nd];exact h4⟩
theorem Rep.lower (r:Rep X R env ρ g μ s)(r':Rep X (lift R env s.heap) env2 dH g' dl s')(le:g.le g'):Rep X R env ρ g' dl s':=by
 have none_of:∀ {a},lift R env s.heap a=none->R a=none:=λ {a} h=>by
  induction e:R a with
  | none=>rfl
  | some o=>rw [r.lift_some e]at h;cases h
 refine⟨r.baseR,λ a o h=>r'.res a o (r.lift_some h),r.above,r'.im,λ a v h=>(r'.imr a v h).imp none_of id,r'.mu,r'.dom,r'.sep,λ i a d h=>?_,?_,r'.gens,r'.os,r'.drawn⟩
 ·refine E04 (r'.off i a d h) λ h1 h2 h3 h4=>?_
  exact⟨h1,h2,none_of h3,none_of h4⟩
 ·refine r.fr.keep' le (λ a o h=>r'.res a o (r.lift_some h)) r.res (λ a o ha h=>r'.res a o (by rw [zcp ha];exact h)) λ a ha=>?_
  obtain⟨o,ho⟩:=r.own_some ha
  have hl:lift R env s.heap a=some o:=by rw [zcp ha];exact ho
  refine⟨?_,λ i p d h=>?_⟩
  ·induction e:g'.im a with
   | none=>rfl
   | some v =>
    exfalso
    rcases r'.imr a v e with h | h
    ·rw [hl]at h;cases h
    ·induction hb:X.base.get? a with
     | none=>exact h hb
     | some o' =>
      have:=r.baseR _ _ hb
      rw [(r.fr.own a ha).1]at this;cases this
  ·refine E04 (r'.off i p d h) λ h1 h2 h3 h4=>?_
   constructor
   ·rintro rfl;rw [hl]at h3;cases h3
   ·rintro rfl;rw [hl]at h4;cases h4
theorem zcZ:∀ (names:List (Str × NameKind))(acc:List (Str × Nat)),(∀ n,(n,NameKind.free)∈names->∃ c,env.cells.lookup n=some c) ->
  ∃ cl:List (Str × Nat),(∀ (P:List (Str × Nat)->Prop),P cl->P cl)/\(forIn names acc λ x r=>if (x.2 == NameKind.free)=true then do let c <- cellOf env x.1;pure (ForInStep.yield ((x.1,c) :: r))else pure (ForInStep.yield r))=(pure cl:Sem _) /\
   ∀ n,cl.lookup n=if (n,NameKind.free)∈names then env.cells.lookup n else acc.lookup n
 | [],acc,_=>⟨acc,λ Y h=>h,rfl,λ n=>by simp⟩
 | (n,k) :: r,acc,h=>by
  by_cases hk:k = .free
  ·subst hk
   obtain⟨c,hc⟩:=h n (.head _)
   refine E13 (zcZ r ((n,c) :: acc) λ m hm=>h m (.tail _ hm)) λ cl _ e q=>?_
   refine⟨cl,λ Y h=>h,?_,λ m=>?_⟩
   ·rw [List.forIn_cons]
    have:cellOf env n=pure c:=by unfold cellOf;rw [hc]
    simp only [beq_self_eq_true,if_true,this]
    exact e
   ·rw [q m]
    by_cases hm:m=n
    ·subst hm
     by_cases h2:(m,NameKind.free)∈r
     ·simp [h2]
     ·simp [h2,hc]
    ·have hb:(m == n)=false:=by simpa using hm
     by_cases h2:(m,NameKind.free)∈r
     ·simp [h2]
     ·simp [h2,hm,bM,hb]
  ·refine E13 (zcZ r acc λ m hm=>h m (.tail _ hm)) λ cl _ e q=>?_
   refine⟨cl,λ Y h=>h,?_,λ m=>?_⟩
   ·rw [List.forIn_cons]
    have:(k == NameKind.free)=false:=by simpa using hk
    simp only [this,bQ,if_false]
    exact e
   ·rw [q m]
    have:((m,NameKind.free)∈(n,k) :: r)=((m,NameKind.free)∈r):=by
     simp only [bD,Prod.mk.injEq]
     apply propext
     constructor
     ·rintro(⟨_,e⟩ | h)
      ·exact absurd e.symm hk
      ·exact h
     ·exact .inr
    simp only [this]
theorem zcu {scope:Scope}(h:∀ n,(n,NameKind.free)∈scope.names->∃ c,env.cells.lookup n=some c) :
  ∃ cl:List (Str × Nat),closureFor scope env=pure cl/\∀ n,cl.lookup n=if (n,NameKind.free)∈scope.names then env.cells.lookup n else none:=by
 refine E13 (zcZ (env:=env) scope.names [] h) λ cl _ e q=>?_
 refine⟨cl,?_,λ n=>by simpa using q n⟩
 unfold closureFor
 show (forIn scope.names [] _ >>= λ cs=>pure cs)=_
 have:(forIn scope.names ([]:List (Str × Nat)) λ (x:Str × NameKind) r=>(match x with | (name,kind)=>if (kind == NameKind.free)=true then do let c <- cellOf env name;pure (ForInStep.yield ((name,c) :: r))else pure (ForInStep.yield r):Sem _))=pure cl:=e
 first
  | (rw [this];rfl)
  | (refine Eq.trans (cw (· >>= λ cs=>pure cs) this) rfl)
set_option tactic.hygienic true in
theorem zaE (scope:Scope)(env:Env)(x:Str):(relabel scope env).names.lookup x=(scope.names.lookup x).map λ k=>if (k == NameKind.free && env.scope.kind == .function && env.kindOf x == some .cell)=true then NameKind.cell else k:=by
 show List.lookup x (scope.names.map λ (n,k)=>if (k == NameKind.free && env.scope.kind == .function && env.kindOf n == some .cell)then (n,NameKind.cell)else (n,k))=_
 generalize scope.names=names
 induction names with
 | nil=>rfl
 | cons a r ih =>
  obtain⟨n,k⟩:=a
  rw [aH]
  by_cases hx:x=n
  ·subst hx
   dsimp only
   split
   ·rename_i hc
    rw [bM,bM]
    simp only [beq_self_eq_true,Option.map_some]
    rw [aB hc]
   ·rename_i hc
    rw [bM,bM]
    simp only [beq_self_eq_true,Option.map_some]
    rw [aw hc]
  ·have hb:(x == n)=false:=by simpa using hx
   have:∀ k',List.lookup x ((n,k') :: (r.map λ (n,k)=>if (k == NameKind.free && env.scope.kind == .function && env.kindOf n == some .cell)then (n,NameKind.cell)else (n,k)))=List.lookup x (r.map λ (n,k)=>if (k == NameKind.free && env.scope.kind == .function && env.kindOf n == some .cell)then (n,NameKind.cell)else (n,k)):=λ k'=>by rw [bM,hb]
   have rhs:List.lookup x ((n,k) :: r)=List.lookup x r:=by rw [bM,hb]
   rw [rhs]
   dsimp only
   split
   ·rw [this];exact ih
   ·rw [this];exact ih
structure CompOk (scope:Scope)(env:Env):Prop where
 kind:scope.kind = .function
 names:∀ x∈scope.names,x.2 = .local->scope.names.lookup x.1=some .local
 cell:∀ x∈scope.names,x.2 ≠ .cell
 free:∀ x∈scope.names,x.2 = .free->env.kindOf x.1=some .cell/\scope.names.lookup x.1=some .free
noncomputable def compOkB (scope:Scope)(env:Env):Bool:=scope.kind == .function && scope.names.all λ x=>match x.2 with
 | .local=>scope.names.lookup x.1 == some .local
 | .cell=>false
 | .free=>env.kindOf x.1 == some .cell && scope.names.lookup x.1 == some .free
 | _=>true
theorem zac {scope:Scope}{env:Env}(h:compOkB scope env=true):CompOk scope env:=by
 unfold compOkB at h
 simp only [bl,beq_iff_eq,List.all_eq_true]at h
 obtain⟨h1,h2⟩:=h
 refine⟨h1,λ x hx e=>?_,λ x hx e=>?_,λ x hx e=>?_⟩ <;> have q:=h2 x hx <;> rw [e]at q
 ·simpa using q
 ·cases q
 ·simpa using q
theorem zad {α β:Type} [BEq α] [LawfulBEq α] {x:α} {y:β}:∀ {l:List (α × β)},l.lookup x=some y->(x,y)∈l
 | (a,b) :: r,h=>by
  rw [bM]at h
  induction hx:x == a with
  | true=>rw [hx]at h;cases h;rw [eq_of_beq hx];exact .head _
  | false=>rw [hx]at h;exact .tail _ (zad h)
set_option tactic.hygienic true in
theorem zhC {scope:Scope}(c:CompOk scope env)(r:Rep X R env ρ g μ s){cl:List (Str × Nat)}(hcl:∀ n,cl.lookup n=if (n,NameKind.free)∈scope.names then env.cells.lookup n else none){C:Nat}(hC:s.heap.objs.size<=C)
  (k:∀ a o,s.heap.get? a=some o->s2.heap.get? a=some o) (hn:s2.heap.Ns C λ Y=>none) {dW:Loc} (eB:∀ p∈dW,p∈ρ/\(p.1,NameKind.free)∈scope.names) (hnd:(dW.map (·.1)).Nodup) :
  FrOk (lift R env s.heap) (compEnvC scope cl C env) dW g s2.heap:=by
 have kc:∀ x,(compEnvC scope cl C env).kindOf x=some .cell->(x,NameKind.free)∈scope.names/\env.kindOf x=some .cell:=λ x e=>by
  have e:(relabel scope env).names.lookup x=some .cell:=e
  rw [zaE]at e
  refine E12 (Option.map_eq_some_iff.mp e) λ kk h1 h2=>?_
  split at h2
  ·rename_i hc
   simp only [bl,beq_iff_eq]at hc
   exact⟨by rw [<- hc.1.1];exact zad h1,hc.2⟩
  ·subst h2;exact absurd rfl (c.cell _ (zad h1))
 have kf:∀ x,(x,NameKind.free)∈scope.names->(compEnvC scope cl C env).kindOf x=some .cell:=λ x hx=>by
  show (relabel scope env).names.lookup x=some .cell
  obtain⟨h1,h2⟩:=c.free _ hx rfl
  rw [zaE,h2,Option.map_some,aB]
  simp [r.fr.kind,h1]
 have cc:∀ x c',cl.lookup x=some c'->(x,NameKind.free)∈scope.names/\env.cells.lookup x=some c':=λ x c' h=>by
  rw [hcl x]at h
  split at h
  ·rename_i hx;exact⟨hx,h⟩
  ·cases h
 have res:∀ x c',cl.lookup x=some c'->∃ o,lift R env s.heap c'=some o:=λ x c' h=>by
  obtain⟨hx,hc⟩:=cc x c' h
  obtain⟨hk,_⟩:=c.free _ hx rfl
  induction hR:R c' with
  | some o=>exact⟨o,r.lift_some hR⟩
  | none =>
   refine E22 (r.fr.cell x hk) λ c2 v h2 q7=>?_;obtain⟨o,ho,_⟩:=q7
   rw [hc]at h2;cases h2
   exact⟨o,by rw [zcp (.inr ⟨hR,x,hk,hc⟩)];exact ho⟩
 have nC:lift R env s.heap C=none:=by
  rw [zcc λ q=>absurd (r.own_lt q) (Nat.not_lt.mpr hC)]
  exact r.R_none hC
 have ownC:∀ a,Own (lift R env s.heap) (compEnvC scope cl C env) a->a=C:=λ a h=>by
  rcases h with h | ⟨h1,x,e,hx⟩
  ·exact h
  ·obtain⟨o,ho⟩:=res x a hx;rw [h1]at ho;cases ho
 refine⟨c.kind,r.fr.glob,r.fr.blt,⟨_,hn⟩,λ x e=>?_,λ x y c' e h1 h2 h3=>?_,λ x c' e h=>?_,λ a h=>?_,λ h=>(by cases h),λ x c' e h=>res x c' h,λ x c' h=>.inl (kf x (cc x c' h).1),hnd,λ p hp=>?_⟩
 ·obtain⟨hx,hk⟩:=kc x e
  refine E22 (r.fr.cell x hk) λ c' v hc q7=>?_;obtain⟨o,ho,hd⟩:=q7
  exact⟨c',v,by show cl.lookup x=_;rw [hcl x,aB hx];exact hc,o,k _ _ ho,hd⟩
 ·obtain⟨o,ho⟩:=res x c' h1;rw [h3]at ho;cases ho
 ·obtain⟨o,ho⟩:=res x c' h
  intro he
  have he:c'=C:=he
  rw [he,nC]at ho;cases ho
 ·obtain rfl:=ownC a h
  refine⟨nC,r.im_none hC,λ i p d h=>?_⟩
  have:=r.mu_lt h
  constructor <;> (first | exact aF (au (And.right ‹_›) ‹_›) | exact aF (au (And.left ‹_›) ‹_›) | omega)
 ·obtain⟨h1,h2⟩:=eB p hp
  refine E12 (r.fr.vals p h1) λ val y vr=>?_
  obtain⟨hk,_⟩:=c.free _ h2 rfl
  refine⟨val,.inr ⟨.inl (kf _ h2),?_⟩,vr⟩
  rcases y with ⟨e,_⟩ | ⟨_,c',hc,o,ho,hd⟩
  ·rw [hk]at e;cases e
  ·exact⟨c',by show cl.lookup p.1=_;rw [hcl p.1,aB h2];exact hc,o,k _ _ ho,hd⟩
end
section
variable {X:Ctx}{l:Nat}{R:Nat->Option Obj}{env env2:Env}{ρ dH:Loc}{g g':Gh}{μ dl:Mem}{s s2 s':Shared}
theorem Fre.not_own {n:Nat}(f:Fre R env g n):¬ Own R env n:=λ h=>by
 rcases h with h | ⟨_,x,_,hx⟩
 ·exact f.own.1 h
 ·exact f.own.2 x hx
theorem Rep.adoptIm (r:Rep X R env ρ g μ s){n:Nat}{v:V}(f:Fre R env g n)(y:ImO g s.heap n v):g.le (g.newIm n v)/\Rep X R env ρ (g.newIm n v) μ s:=by
 have l:=r.le_newIm (v:=v) f.im
 refine⟨l,r.baseR,r.res,r.above,λ a w e=>?_,λ a w e=>?_,λ i o h=>?_,r.dom,r.sep,λ i a d e=>?_,?_,r.gens,r.os,r.drawn⟩
 ·by_cases ha:a=n
  ·subst ha
   simp only [Gh.newIm,if_true]at e
   cases e
   exact y.mono l λ Y h=>h
  ·simp only [Gh.newIm,aw ha]at e
   exact(r.im a w e).mono l λ Y h=>h
 ·by_cases ha:a=n
  ·subst ha;exact .inl f.R
  ·simp only [Gh.newIm,aw ha]at e;exact r.imr a w e
 ·refine E22 (r.mu i o h) λ a d e z=>?_
  exact⟨a,d,e,z.mono l (λ Y h=>h) λ Y h=>h⟩
 ·obtain⟨n1,n2⟩:=f.mu i a d e
  refine E04 (r.off i a d e) λ h1 h2 h3 h4=>?_
  refine⟨?_,?_,h3,h4⟩
  ·simp only [Gh.newIm];rw [aw n1];exact h1
  ·simp only [Gh.newIm];rw [aw n2];exact h2
 ·refine r.fr.keep' l r.res r.res (λ Y Y Y h=>h) λ a ha=>⟨?_,(r.fr.own a ha).2.2⟩
  simp only [Gh.newIm];rw [aw (by rintro rfl;exact f.not_own ha)];exact(r.fr.own a ha).2.1
theorem Rep.adoptMu (r:Rep X R env ρ g μ s){i:Id}{o:MO}{a d:Nat}(hi:μ i=none)(fa:Fre R env g a)(fd:Fre R env g d)(y:MuO X.w g s.heap a d o):g.le (g.newMu i (a,d))/\Rep X R env ρ (g.newMu i (a,d)) (μ.set i o) s:=by
 have e0:=r.dom i hi
 have l:g.le (g.newMu i (a,d)):=by
  refine⟨λ Y Y e=>e,λ j p e=>?_⟩
  unfold Gh.newMu;dsimp only;rw [aw]
  ·exact e
  ·rintro rfl;rw [e0]at e;cases e
 have inv:∀ j p,(g.newMu i (a,d)).mu j=some p->(j=i/\p=(a,d))∨(j≠i/\g.mu j=some p):=λ j p e=>by
  by_cases h:j=i
  ·subst h;simp only [Gh.newMu,if_true]at e;cases e;exact .inl ⟨rfl,rfl⟩
  ·simp only [Gh.newMu,aw h]at e;exact .inr ⟨h,e⟩
 refine⟨l,r.baseR,r.res,r.above,λ b w e=>(r.im b w e).mono l λ Y h=>h,r.imr,λ j o' h=>?_,λ j h=>?_,λ j j' b e b' e' h h' hne=>?_,λ j b e h=>?_,?_,r.gens,r.os,r.drawn⟩
 ·by_cases hj:j=i
  ·subst hj
   simp only [Mem.set,if_true]at h
   cases h
   exact⟨a,d,by simp [Gh.newMu],y.mono l (λ Y h=>h) λ Y h=>h⟩
  ·simp only [Mem.set,aw hj]at h
   refine E22 (r.mu j o' h) λ b e e1 z=>?_
   exact⟨b,e,l.2 _ _ e1,z.mono l (λ Y h=>h) λ Y h=>h⟩
 ·by_cases hj:j=i
  ·subst hj;simp [Mem.set]at h
  ·simp only [Mem.set,aw hj]at h
   simp only [Gh.newMu,aw hj];exact r.dom j h
 ·rcases inv _ _ h with ⟨rfl,q⟩ | ⟨n1,q⟩ <;> rcases inv _ _ h' with ⟨rfl,q'⟩ | ⟨n2,q'⟩
  ·exact absurd rfl hne
  ·cases q
   obtain⟨p1,p2⟩:=fa.mu _ _ _ q'
   obtain⟨p3,p4⟩:=fd.mu _ _ _ q'
   exact⟨cp p1,cp p2,cp p3,cp p4⟩
  ·cases q'
   obtain⟨p1,p2⟩:=fa.mu _ _ _ q
   obtain⟨p3,p4⟩:=fd.mu _ _ _ q
   exact⟨p1,p3,p2,p4⟩
  ·exact r.sep _ _ _ _ _ _ q q' hne
 ·rcases inv _ _ h with ⟨rfl,q⟩ | ⟨n1,q⟩
  ·cases q;exact⟨fa.im,fd.im,fa.R,fd.R⟩
  ·exact r.off _ _ _ q
 ·refine r.fr.keep' l r.res r.res (λ Y Y Y h=>h) λ b hb=>⟨(r.fr.own b hb).2.1,λ j p e h=>?_⟩
  rcases inv _ _ h with ⟨rfl,q⟩ | ⟨n1,q⟩
  ·cases q;exact⟨by rintro rfl;exact fa.not_own hb,by rintro rfl;exact fd.not_own hb⟩
  ·exact(r.fr.own b hb).2.2 j p e q
theorem Rep.adoptLst (r:Rep X R env ρ g μ s){xs:List V}{items:Array Value}{n:Nat}(f:Fre R env g n)(hl:s.heap.PlainList n items)(hv:VRs g xs items.toList){Q:V->Mem->Prop}(q:NewList μ xs Q) :
  TPst X R env ρ g (VPst Q) (.ref n) s:=by
 rcases q with q | ⟨i,hi,q⟩
 ·obtain⟨a,b⟩:=r.adoptIm (v:=.lst xs) f ⟨items,hl,hv⟩
  exact⟨_,_,a,b,.lst xs,⟨_,rfl,by simp [Gh.newIm]⟩,q⟩
 ·obtain⟨a,b⟩:=r.adoptMu (i:=i) (o:=.list xs) hi f f ⟨rfl,items,hl,hv⟩
  exact⟨_,_,a,b,.ref i,⟨n,n,rfl,by simp [Gh.newMu]⟩,q⟩
theorem zjL {b n:Nat}(h:b < n):b≠n+1:=by exact nsy ‹_›
theorem ze2 (n:Nat):n≠n+1:=by simp_all
theorem zfL (r:Rep X R env ρ g μ s){n:Nat}(f:Fre R env g n){h:Heap}:lift R env h n=none:=by rw [zcc f.not_own];exact f.R
inductive CoT (X:Ctx)(l:Nat)(env:Env)(ρ:Loc)(scope:Scope)(target:Expr)(ifs:List Expr)(body:Nat->Env->Sem Unit)(Fin:List V->Mem->Prop)(xs:List V)(ok:Mem->Prop)(okT:Expr->Prop)(dp:Mem):Prop
 | mk (hT:okT target) (dW:Loc) (Inv:Nat->List V->Loc->Mem->Prop) (eB:∀ p∈dW,p∈ρ/\(p.1,NameKind.free)∈scope.names) (hnd:(dW.map (·.1)).Nodup) (hok:∀ i ys dm dl,Inv i ys dm dl->ok dl) (h0:Inv 0 [] dW dp)
   (turn:∀ R' C cl i z ys dm dl,xs[i]? = some z->Inv i ys dm dl->AT X l R' (compEnvC scope cl C env) dm dl target z λ dN dp=>WIfs X l R' (compEnvC scope cl C env) dN dp ifs λ b dt =>
    (b=true->∀ D,BodyOk X l (compEnvC scope cl C env) dN dt (body D (compEnvC scope cl C env)) D ys λ ys' eI dK=>Inv (i+1) ys' eI dK)/\(b=false->Inv (i+1) ys dN dt))
   (fin:∀ ys dm dl,Inv xs.length ys dm dl->Fin ys dl):CoT X l env ρ scope target ifs body Fin xs ok okT dp
inductive KCo (X:Ctx)(l:Nat)(env:Env)(ρ:Loc)(scope:Scope)(target:Expr)(ifs:List Expr)(elt:Expr)(Fin:List V->Mem->Prop)(xs:List V)(ok:Mem->Prop)(okT:Expr->Prop)(dp:Mem):Prop
 | mk (hT:okT target) (dW:Loc) (Inv:Nat->List V->Loc->Mem->Prop) (eB:∀ p∈dW,p∈ρ/\(p.1,NameKind.free)∈scope.names) (hnd:(dW.map (·.1)).Nodup) (hok:∀ i ys dm dl,Inv i ys dm dl->ok dl) (h0:Inv 0 [] dW dp)
   (turn:∀ R' C cl i z ys dm dl,xs[i]? = some z->Inv i ys dm dl->AT X l R' (compEnvC scope cl C env) dm dl target z λ dN dp=>WIfs X l R' (compEnvC scope cl C env) dN dp ifs λ b dt =>
    (b=true->∀ R'',W X l R'' (compEnvC scope cl C env) dN dt elt λ y dK=>ys.length<=sizeLine/\Inv (i+1) (ys ++ [y]) dN dK)/\(b=false->Inv (i+1) ys dN dt))
   (fin:∀ ys dm dl,Inv xs.length ys dm dl->Fin ys dl):KCo X l env ρ scope target ifs elt Fin xs ok okT dp
noncomputable def appB (elt:Expr)(D:Nat)(env:Env):Sem Unit:=do let _ <- call (.builtin "list.append") [.ref D,<- eval elt env]
theorem KCo.t {scope:Scope}{target:Expr}{ifs:List Expr}{elt:Expr}{Fin:List V->Mem->Prop}{xs:List V}{ok:Mem->Prop}{okT:Expr->Prop}(h:KCo X l env ρ scope target ifs elt Fin xs ok okT μ):CoT X l env ρ scope target ifs (appB elt) Fin xs ok okT μ:=by
 obtain⟨hT,dW,Inv,h1,h2,h3,h4,turn,fin⟩:=h
 exact⟨hT,dW,Inv,h1,h2,h3,h4,λ R' C cl i z ys dm dl hz hi=>AT.mono (turn R' C cl i z ys dm dl hz hi) λ dN dp hw=>WIfs.mono hw λ b dt q=>⟨λ e D=>BodyOk.app λ R''=>q.1 e R'',q.2⟩,fin⟩
inductive CEnd (X:Ctx)(R:Nat->Option Obj)(env:Env)(ρ:Loc)(g:Gh)(Fin:List V->Mem->Prop)(D C:Nat)(s':Shared):Prop
 | mk (g':Gh) (dl:Mem) (ys:List V) (items:Array Value) (m:Str->Option Value):g.le g'->Rep X R env ρ g' dl s'->Fre R env g' D->Fre R env g' C->D≠C->s'.heap.Ns C m->s'.heap.PlainList D items->VRs g' ys items.toList->Fin ys dl->CEnd X R env ρ g Fin D C s'
theorem zcx {elt target iter:Expr}{ifs:List Expr}{gs:List Comprehension}{scope:Scope}{pos ps:Pos}{body:Nat->Env->Sem Unit}{Fin:List V->Mem->Prop}{use:Option (Value->Sem Unit)}{Qf:Value->Shared->Prop}(c:CompOk scope env)
  (ht:∀ it D env',compTurn (.ListComp elt (⟨target,iter,ifs,0⟩ :: gs) scope pos) 0 (.ref it) (.ref D) env'=gTurn ⟨target,iter,ifs,0⟩ (body D env') (.ListComp elt (⟨target,iter,ifs,0⟩ :: gs) scope pos) 0 (.ref it) (.ref D) env')
  (h:WIt X l R env ρ μ iter (CoT X l env ρ scope target ifs body Fin)) {A:Around} (a:AOk X A l) (r:Rep X R env ρ g μ s)
  (hpost:∀ D C s',CEnd X R env ρ g Fin D C s'->compPost (model X.prog X.w) A (λ Y Y=>False) use Qf (.ref D) C (.ok .next) s')
  (hf:(λ x=>pure x)=foldedSetIterable iter env) :
  wpAny (model X.prog X.w) A (comprehension (.ListComp elt (⟨target,iter,ifs,0⟩ :: gs) scope pos) scope env ps (newList []) false (eval iter env) use) Qf (λ Y Y=>False) s:=by
 have hcells:∀ n,(n,NameKind.free)∈scope.names->∃ c,env.cells.lookup n=some c:=λ n hn=>by
  refine E22 (r.fr.cell n (c.free _ hn rfl).1) λ c' v hc _=>?_;exact⟨c',hc⟩
 refine E12 (zcu hcells) λ cl hclos hcl=>?_
 refine wpAny_comprehension_free (cl:=cl) (use:=use) rfl (λ x=>(congrFun hf x).symm) hclos c.kind c.names ?_
 refine am (h g A s a r) (λ v dr dw=>?_) λ Y Y e=>e
 refine am dw (λ it dq dJ=>?_) λ Y Y e=>e
 obtain⟨i,its,P,src,du,dp,xs,ok,okT,e,dy,dv,S,hs,fI,hp,hT,dW,Inv,eB,hnd,hok,h0,turn,fin⟩:=dJ
 subst e
 refine wpAny_newList ?_
 refine wpAny_newFunctionEnv c.cell (by intro y hy;cases hy) (λ ed hn hsb=>?_) c.kind
 have itlt:∀ b∈its,b < dq.heap.objs.size:=λ b hb=>by obtain⟨o,ho⟩:=S.has _ _ hp b hb;exact aO ho
 have eD:((dq.heap.push { cls:=.type "list",data:=.seq #[] }).objs.size:Nat)=dq.heap.objs.size+1:=Heap.size_push ..
 have k2:∀ b ob,dq.heap.get? b=some ob->ed.get? b=some ob:=λ b ob e =>
  (hsb.2 b (by rw [eD];exact zjL (aO e))).trans (ay _ (ay _ e))
 have d9:Rep X R env ρ du dp { dq with heap:=ed,toks:=dq.toks+([]:List (Str × Value)).length }:=dv.keepAll k2 rfl rfl rfl
 have fD:Fre R env du dq.heap.objs.size:=.newest dv (an _) (zaM dv)
 have fC:Fre R env du (dq.heap.objs.size+1):=.newest dv (bA _) (zaM dv)
 rw [eD]at hn hsb
 have ff:=zhC (s2:={ dq with heap:=ed,toks:=dq.toks+([]:List (Str × Value)).length }) c dv hcl (C:=dq.heap.objs.size+1) (bA _) k2 hn eB hnd
 have rc:=dv.lifted d9 k2 ff (by show X.base.objs.size<=dq.heap.objs.size+1;have:=dv.own_lt (a:=env.locals) (.inl rfl);have:=dv.above;exact aQ (nT ‹_› (az ‹_›)))
 have cne:∀ x c',cl.lookup x=some c'->env.cells.lookup x=some c':=λ x c' h=>by
  rw [hcl x]at h
  split at h
  ·exact h
  ·cases h
 have up:∀ {n:Nat},Fre R env du n->n≠dq.heap.objs.size+1->Fre (lift R env dq.heap) (compEnvC scope cl (dq.heap.objs.size+1) env) du n:=λ {n} f hn=>⟨zfL dv f,f.im,f.mu,hn,λ x h=>f.own.2 x (cne x n h)⟩
 have hDl:ed.PlainList dq.heap.objs.size #[]:=by
  exact⟨0,(hsb.2 dq.heap.objs.size (by exact ze2 _)).trans (ay _ (aJ _ rfl))⟩
 have hpl:P ed 0:=S.look _ _ _ (λ b hb=>by obtain⟨o,ho⟩:=S.has _ _ hp b hb;rw [ho];exact k2 _ _ ho) hp
 have fin':codeAny (model X.prog X.w) A (.compLoop (.ListComp elt (⟨target,iter,ifs,0⟩ :: gs) scope pos) 0 (.ref i) (.ref dq.heap.objs.size) (compEnvC scope cl (dq.heap.objs.size+1) env)) (compPost (model X.prog X.w) A (λ Y Y=>False) use Qf (.ref dq.heap.objs.size) (dq.heap.objs.size+1)) { dq with heap:=ed,toks:=dq.toks+([]:List (Str × Value)).length }:=by
  refine zc5 S (gc:=⟨target,iter,ifs,0⟩) hT Inv (ht _ _ _) hok (λ R' Y i z ys dm dl hz hi=>AT.mono (turn R' _ _ i z ys dm dl hz hi) λ dN dp hw=>WIfs.mono hw λ b dt q=>⟨λ e=>q.1 e _,q.2⟩) a rc hs (λ b hb=>up (fI b hb) (by have:=itlt b hb;exact nsy ‹_›)) (up fD (by simp_all)) (λ hb=>by have:=itlt _ hb;exact absurd (by assumption) (bj _)) hpl hDl .nil h0 ?_
  intro g' ys' dm dl s' items' le' r' fD' hl' hv' inv'
  obtain⟨m,hm⟩:=r'.fr.ns
  have ownC:=r'.fr.own (dq.heap.objs.size+1) (.inl rfl)
  exact hpost _ _ _ ⟨g',dl,ys',items',m,dy.trans le',dv.lower r' le',⟨fD.R,fD'.im,fD'.mu,fD.own⟩,⟨fC.R,ownC.2.1,ownC.2.2,fC.own⟩,ze2 _,hm,hl',hv',fin ys' dm dl inv'⟩
 rw [eD]
 exact codeAny_compStart_list fin' (am (S.self hpl fin') (λ Y Y h=>h) λ Y Y e=>e.elim)
theorem zhc {Q:V->Mem->Prop}{A:Around}{D C:Nat}(e:CEnd X R env ρ g (λ ys dl=>NewList dl ys Q) D C s) :
  compPost (model X.prog X.w) A (λ Y Y=>False) none (TPst X R env ρ g (VPst Q)) (.ref D) C (.ok .next) s:=by
 obtain⟨g',dl,ys',items',m,le,r,fD,fC,ne,hm,⟨nD,hoD⟩,hv,q⟩:=e
 refine⟨m,hm,λ h' hsb'=>?_⟩
 have r6:Rep X R env ρ g' dl { s with heap:=h' }:=r.but (it:=C) fC (λ b o ne e=>(hsb'.2 b ne).trans e) rfl rfl rfl
 obtain⟨g2,dA,le2,r7,q⟩:=r6.adoptLst (n:=D) fD ⟨nD,(hsb'.2 _ ne).trans hoD⟩ hv q
 exact⟨g2,dA,le.trans le2,r7,q⟩
theorem W.comp {elt target iter:Expr}{ifs:List Expr}{scope:Scope}{pos:Pos}{Q:V->Mem->Prop}(c:CompOk scope env)
  (h:WIt X l R env ρ μ iter (KCo X l env ρ scope target ifs elt λ ys dl=>NewList dl ys Q))
  (hf:(λ x=>pure x)=foldedSetIterable iter env:=by exact rfl):W X l R env ρ μ (.ListComp elt [⟨target,iter,ifs,0⟩] scope pos) Q:=by
 intro g A s a r
 rw [eval_ListComp]
 exact zcx c (λ Y Y Y=>last1 ..) (h.mono λ Y Y Y Y q=>q.t) a r (λ Y Y Y e=>zhc e) hf
end
abbrev dg:=@W.comp
section
variable {X:Ctx}{l:Nat}{R:Nat->Option Obj}{env env2:Env}{ρ dH:Loc}{g g':Gh}{μ dl:Mem}{s s2 s':Shared}
noncomputable def Cc (X:Ctx)(l:Nat)(R:Nat->Option Obj)(env:Env)(ρ:Loc)(g:Gh)(μ:Mem)(c:Code)(Q:V->Mem->Prop):Prop :=
 ∀ A s,AOk X A l->Rep X R env ρ g μ s->codeAny (model X.prog X.w) A c (λ r s'=>match r with | .ok (.ret v)=>TPst X R env ρ g (VPst Q) v s' | _=>False) s
noncomputable def Cs (X:Ctx)(l:Nat)(f:Value)(args:List V)(μ:Mem)(Q:V->Mem->Prop):Prop :=
 ∀ R env ρ g vs,VRs g args vs->Cc X l R env ρ g μ (.call f ⟨vs,[]⟩) Q
theorem Cc.call {f:Value}{vs:List Value}{Q:V->Mem->Prop}(h:Cc X l R env ρ g μ (.call f ⟨vs,[]⟩) Q):Tr X l R env ρ g μ (call f vs) (VPst Q):=λ A s a r =>
 wpAny_call (codeAny_mono (h A s a r) λ res s' hr=>by
  cases res with
  | error e=>exact hr.elim
  | ok fl=>cases fl with
   | ret v=>exact hr
   | _=>exact hr.elim)
noncomputable def fnLook (K:Frag)(f:Nat):Option FuncData:=match K.lookup f with
 | some o=>(match o.data with | .func fd=>some fd | _=>none)
 | none=>none
set_option tactic.hygienic true in
theorem zcn {K:Frag}{f:Nat}{fd:FuncData}(h:fnLook K f=some fd):∃ o,K.lookup f=some o/\o.data = .func fd:=by
 unfold fnLook at h
 split at h
 ·rename_i o ho
  split at h
  ·rename_i fd' hd;cases h;exact⟨o,ho,hd⟩
  ·cases h
 ·cases h
noncomputable def fnB (K:Frag)(fd:FuncData):Bool :=
 codeIn K fd.code fd.qualname && fd.globals == mainGlobals && fd.builtins == builtinsNs && fd.scope.kind == .function && !fd.scope.isCoroutine && !fd.scope.isGenerator
noncomputable def plainB (K:Frag)(fd:FuncData)(ps:List Str):Bool :=
 fnB K fd && fd.scope.names.all (λ x=>x.2 != .cell) && fd.closure.all (λ x=>fd.scope.names.lookup x.1 == some .free && (K.lookup x.2).isSome) && ps.all (λ p=>fd.scope.names.lookup p == some .local)
noncomputable def cellB (K:Frag)(fd:FuncData)(ps:List Str):Bool :=
 fnB K fd && fd.closure.isEmpty && fd.scope.names.all (λ x=>x.2 != .free) && fd.scope.names.all (λ x=>fd.scope.names.lookup x.1 == some x.2) && ps.all (λ p=>fd.scope.names.lookup p == some .local || fd.scope.names.lookup p == some .cell)
structure FnB (K:Frag)(fd:FuncData):Prop where
 code:codeIn K fd.code fd.qualname=true
 globals:fd.globals=mainGlobals
 builtins:fd.builtins=builtinsNs
 kind:fd.scope.kind = .function
 co:fd.scope.isCoroutine=false
 gen:fd.scope.isGenerator=false
theorem zix {K:Frag}{fd:FuncData}(h:fnB K fd=true):FnB K fd:=by
 unfold fnB at h
 simp only [bl,beq_iff_eq,Bool.not_eq_true']at h
 obtain⟨⟨⟨⟨⟨h1,h2⟩,h3⟩,h4⟩,h5⟩,h6⟩:=h
 exact⟨h1,h2,h3,h4,h5,h6⟩
theorem zde {α:Type}:∀ {l:List (Str × α)} {n:Str} {c:α},(l.map (·.1)).Nodup->(n,c)∈l->l.lookup n=some c
 | (k,v) :: r,n,c,nd,h=>by
  rw [aH,bL]at nd
  rw [bM]
  rcases List.mem_cons.mp h with e | h
  ·cases e;simp
  ·have hne:(n == k)=false:=by
    induction hb:n == k with
    | false=>rfl
    | true=>exact absurd (List.mem_map.mpr ⟨(n,c),h,eq_of_beq hb⟩) nd.1
   rw [hne];exact zde nd.2 h
theorem zdB {ps:List Str}{args:List V}{vs:List Value}(h:VRs g args vs):∀ {ps:List Str},∀ p∈ps.zip args,∃ v,(p.1,v)∈ps.zip vs/\VR g p.2 v:=by
 induction h with
 | nil=>intro ps p hp;simp at hp
 | cons a _ ih =>
  intro ps p hp
  cases ps with
  | nil=>cases hp
  | cons q ps =>
   rw [List.zip_cons_cons]at hp ⊢
   rcases List.mem_cons.mp hp with rfl | hp
   ·exact⟨_,.head _,a⟩
   ·refine E12 (ih p hp) λ v h1 h2=>?_;exact⟨v,.tail _ h1,h2⟩
theorem zaZ {α:Type}:∀ {ps:List Str} {vs:List α},vs.length=ps.length->(ps.zip vs).map (·.1)=ps
 | [],[],_=>rfl
 | p :: ps,v :: vs,h=>by rw [List.zip_cons_cons,aH,zaZ (by simpa using h)]
theorem AOk.deeper {A:Around}{l:Nat}{e:Env}(a:AOk X A (l+1)):AOk X (A.deeper e) l :=
 ⟨a.handled,by show A.depth+1+4 * l < _;have:=a.depth;exact nrr (by decide) ‹_›,by show A.units+3+16 * l < _;have:=a.units;exact nrr (by decide) ‹_›,Nat.le_of_succ_le a.lid,λ h=>absurd (au (bw l) a.lid) (Nat.not_lt.mpr h),let ⟨fs,h⟩:=a.fr;⟨_,Around.frames_deeper h⟩⟩
structure PlainF (K:Frag)(fd:FuncData)(ps:List Str):Prop extends FnB K fd where
 noCell:∀ x∈fd.scope.names,x.2 ≠ .cell
 clos:∀ x∈fd.closure,fd.scope.names.lookup x.1=some .free/\(K.lookup x.2).isSome=true
 pars:∀ p∈ps,fd.scope.names.lookup p=some .local
theorem zf6 {K:Frag}{fd:FuncData}{ps:List Str}(ok:plainB K fd ps=true):PlainF K fd ps:=by
 unfold plainB at ok
 simp only [bl,List.all_eq_true,beq_iff_eq,bne_iff_ne]at ok
 obtain⟨⟨⟨ok1,ok2⟩,ok3⟩,ok4⟩:=ok
 exact⟨zix ok1,ok2,ok3,ok4⟩
theorem PlainF.binds {K:Frag}{fd:FuncData}{ps:List Str}(P:PlainF K fd ps){vs:List Value}(hlen:vs.length=ps.length):∀ x∈ps.zip vs,fd.scope.names.lookup x.1=some .local:=λ x hx=>by
 have:=List.mem_map_of_mem (f:=Prod.fst) hx
 rw [zaZ hlen]at this
 exact P.pars _ this
theorem Rep.enter {fd:FuncData}{ps:List Str}{args:List V}{f tk:Nat}{vs:List Value}{dw:Heap}(r:Rep X R env ρ g μ s)(P:PlainF X.K fd ps)(hvs:VRs g args vs)(nd:ps.Nodup)(hl:args.length=ps.length)
  (hns:dw.Ns s.heap.objs.size λ x=>(ps.zip vs).reverse.lookup x) (hk:∀ b o,s.heap.get? b=some o->dw.get? b=some o):Rep X (lift R env s.heap) (callEnv fd s.heap.objs.size f) (ps.zip args) g μ { s with heap:=dw,toks:=tk }:=by
 have hlen:vs.length=ps.length:=hvs.length▸hl
 have r2:Rep X R env ρ g μ { s with heap:=dw,toks:=tk }:=r.keepAll hk rfl rfl rfl
 have nC:∀ {h:Heap},lift R env h s.heap.objs.size=none:=λ {h}=>by
  rw [zcc λ q=>absurd (r.own_lt q) (bj _)];exact r.R_none (an _)
 have kn:∀ x,(callEnv fd s.heap.objs.size f).kindOf x=some .cell->False:=λ x e=>P.noCell _ (zad e) rfl
 have cl:∀ x c,(callEnv fd s.heap.objs.size f).cells.lookup x=some c->fd.scope.names.lookup x=some .free/\∃ o,lift R env s.heap c=some o:=λ x c e=>by
  obtain⟨h1,h2⟩:=P.clos _ (zad e)
  obtain⟨o,ho⟩:=Option.isSome_iff_exists.mp h2
  exact⟨h1,o,r.lift_some (r.baseR _ _ (X.kin _ _ ho))⟩
 have ownC:∀ a,Own (lift R env s.heap) (callEnv fd s.heap.objs.size f) a->a=s.heap.objs.size:=λ a h=>by
  rcases h with h | ⟨_,x,e,_⟩
  ·exact h
  ·exact(kn x e).elim
 refine r.lifted r2 hk ⟨P.kind,P.globals,P.builtins,⟨_,hns⟩,λ x e=>(kn x e).elim,λ x y c e=>(kn x e).elim,λ x c e=>(kn x e).elim,λ b hb=>?_,λ Y x c e=>(kn x e).elim,λ x c e hc=>(cl x c hc).2,λ x c hc=>.inr (cl x c hc).1,by rw [zaZ hl];exact nd,λ p hp=>?_⟩ (by show X.base.objs.size<=s.heap.objs.size;have:=r.own_lt (a:=env.locals) (.inl rfl);have:=r.above;exact nT ‹_› (az ‹_›))
 ·obtain rfl:=ownC b hb
  refine⟨nC,r.im_none (an _),λ i p d h=>?_⟩
  have:=r.mu_lt h
  constructor <;> (first | exact aF (And.right ‹_›) | exact aF (And.left ‹_›) | omega)
 ·refine E12 (zdB (ps:=ps) hvs p hp) λ v hv vr=>?_
  refine⟨v,.inl ⟨P.binds hlen _ hv,_,hns,?_⟩,vr⟩
  refine zde ?_ (List.mem_reverse.mpr hv)
  rw [List.map_reverse,zaZ hlen];exact(List.reverse_perm ps).nodup_iff.mpr nd
theorem SPst.back {g:Gh}{Q:V->Mem->Prop}{fl:Flow}(r:Rep X R env ρ g μ s)(h:SPst X (lift R env s.heap) env2 g (Post Q) fl s'):TPst X R env ρ g (VPst Q) (match (generalizing:=false) fl with | .ret v=>v | _=>Value.none) s':=by
 obtain⟨g',dm,dl,fl',le,r',hfl,q⟩:=h
 have r5:=r.lower r' le
 induction fl' with
 | next=>cases hfl;exact⟨g',dl,le,r5,.none,rfl,q⟩
 | ret x=>obtain⟨v,rfl,vr⟩:=hfl;exact⟨g',dl,le,r5,x,vr,q⟩
theorem Cs.plain {fd:FuncData}{body:List Stmt}{ps:List Str}{args:List V}{f:Nat}{Q:V->Mem->Prop}(hf:fnLook X.K f=some fd)(hb:fd.body = .stmts body)(ok:plainB X.K fd ps=true)
  (bind:∀ vs:List Value,vs.length=ps.length->bindArgs fd ⟨vs,[]⟩=pure (ps.zip vs)) (nd:ps.Nodup) (hl:args.length=ps.length)
  (h:∀ R L,XB X l R (callEnv fd L f) (ps.zip args) μ body (Post Q)):Cs X (l+1) (.ref f) args μ Q:=by
 intro R env ρ g vs hvs A s a r
 refine E12 (zcn hf) λ o ho hdata=>?_
 have P:=zf6 ok
 have hlen:vs.length=ps.length:=hvs.length▸hl
 refine codeAny_call_def a.room (r.kin _ _ ho) hdata r.top.nolimit (codeRec_of r.kin P.code) hb (BindsTo.of_eq (bind vs hlen)) P.noCell (P.binds hlen) (λ dw hns hk=>?_) P.co P.gen P.kind
 exact am (h _ _ g _ _ a.deeper (r.enter P hvs nd hl hns hk)) (λ fl s' hh=>hh.back r) λ Y Y e=>e.elim
theorem ze1 {kindOf:Str->Option NameKind}:∀ {binds:List (Str × Value)} {m:Str->Option Value} {x:Str} {v:Value},(binds.map (·.1)).Nodup->((x,v)∈binds∨(x∉binds.map (·.1)/\m x=some v))->kindOf x=some .local->bindL kindOf binds m x=some v
 | [],m,x,v,_,h,_=>by
  rcases h with h | h
  ·cases h
  ·exact h.2
 | (y,u) :: r,m,x,v,nd,h,hk=>by
  unfold bindL
  rw [aH,bL]at nd
  refine ze1 nd.2 ?_ hk
  rcases h with h | ⟨h1,h2⟩
  ·rcases List.mem_cons.mp h with e | h
   ·cases e
    exact .inr ⟨nd.1,by rw [aB hk];simp⟩
   ·exact .inl h
  ·rw [aH,bD,not_or]at h1
   refine .inr ⟨h1.2,?_⟩
   split
   ·dsimp only;rw [aw h1.1];exact h2
   ·exact h2
theorem zeA {kindOf:Str->Option NameKind}:∀ {binds:List (Str × Value)} {m:Str->Option Value} {x:Str} {v:Value},(binds.map (·.1)).Nodup->((x,v)∈binds∨(x∉binds.map (·.1)/\m x=some v))->kindOf x=some .cell->bindC kindOf binds m x=some v
 | [],m,x,v,_,h,_=>by
  rcases h with h | h
  ·cases h
  ·exact h.2
 | (y,u) :: r,m,x,v,nd,h,hk=>by
  unfold bindC
  rw [aH,bL]at nd
  refine zeA nd.2 ?_ hk
  rcases h with h | ⟨h1,h2⟩
  ·rcases List.mem_cons.mp h with e | h
   ·cases e
    exact .inr ⟨nd.1,by rw [aw (by rw [hk];decide)];simp⟩
   ·exact .inl h
  ·rw [aH,bD,not_or]at h1
   refine .inr ⟨h1.2,?_⟩
   split
   ·exact h2
   ·dsimp only;rw [aw h1.1];exact h2
set_option tactic.hygienic true in
theorem zbd:∀ (names:List (Str × NameKind))(n:Nat)(acc:List (Str × Nat)){x:Str}{c:Nat},(x,c)∈cellsFrom n names acc->(x,NameKind.cell)∈names∨(x,c)∈acc
 | [],_,_,_,_,h=>.inr h
 | (y,k) :: r,n,acc,x,c,h=>by
  unfold cellsFrom at h
  split at h
  ·rename_i hk
   rcases zbd r _ _ h with h | h
   ·exact .inl (.tail _ h)
   ·rcases List.mem_cons.mp h with e | h
    ·cases e;exact .inl (by rw [eq_of_beq hk];exact .head _)
    ·exact .inr h
  ·exact(zbd r _ _ h).imp (λ h=>.tail _ h) id
noncomputable def cellEnv (fd:FuncData)(L f:Nat):Env:=newEnv fd.scope L fd.globals (cellsFrom (L+1) fd.scope.names []) (fd.qualname ++ ".<locals>.") (some f) fd.code none fd.builtins
theorem ze3 {fd:FuncData}{body:List Stmt}{ps:List Str}{args:List V}{f:Nat}{vs:List Value}{A:Around}{Rr:Result->Shared->Prop}(hf:fnLook X.K f=some fd)(hb:fd.body = .stmts body)(ok:cellB X.K fd ps=true)
  (bind:∀ vs:List Value,vs.length=ps.length->bindArgs fd ⟨vs,[]⟩=pure (ps.zip vs)) (nd:ps.Nodup) (hl:args.length=ps.length) (hvs:VRs g args vs) (hroom:A.depth < recursionLimit) (r:Rep X R env ρ g μ s)
  (h:∀ dw tk,Rep X (lift R env s.heap) (cellEnv fd s.heap.objs.size f) (ps.zip args) g μ { s with heap:=dw,toks:=tk } ->
   wpAny (model X.prog X.w) (A.deeper (cellEnv fd s.heap.objs.size f)) (execs body (cellEnv fd s.heap.objs.size f)) (λ fl s'=>Rr (.ok (.ret (match fl with | .ret v=>v | _=>.none))) s')
    (λ e s'=>wpAny (model X.prog X.w) (A.deeper (cellEnv fd s.heap.objs.size f)) (leaving (cellEnv fd s.heap.objs.size f) e) (λ Y s''=>Rr (.error e) s'') (λ e' s''=>Rr (.error e') s'') s') { s with heap:=dw,toks:=tk }) :
  codeAny (model X.prog X.w) A (.call (.ref f) ⟨vs,[]⟩) Rr s:=by
 refine E12 (zcn hf) λ o ho hdata=>?_
 unfold cellB at ok
 simp only [bl,Bool.or_eq_true,List.all_eq_true,beq_iff_eq,bne_iff_ne]at ok
 obtain⟨⟨⟨⟨ok1,ok2⟩,ok3⟩,ok4⟩,ok5⟩:=ok
 have B:=zix ok1
 have hcl:fd.closure=[]:=by simpa using ok2
 have hlen:vs.length=ps.length:=hvs.length▸hl
 have hin:∀ x∈ps.zip vs,x.1∈ps:=λ x hx=>by
  have:=List.mem_map_of_mem (f:=Prod.fst) hx
  rw [zaZ hlen]at this;exact this
 refine codeAny_call_function hroom (r.kin _ _ ho) hdata B.co B.gen hb (codeRec_of r.kin B.code) (BindsTo.of_eq (bind vs hlen) _ _ _ _ ?_)
 rw [hcl]
 refine wpAny_newFunctionEnv_cells B.kind (λ x hx=>(ok5 _ (hin x hx)).imp id λ e=>⟨e,cellsFrom_some _ _ _ (.inl e)⟩) λ env' he dr x=>?_
 have he':env'=cellEnv fd s.heap.objs.size f:=he
 rw [he']at x
 rw [he']
 clear he he' env'
 refine E22 (x.done) λ dw tk q9 hk=>?_;subst q9
 refine⟨r.top.nolimit.keeps hk,codeAny_func ?_⟩
 have r2:Rep X R env ρ g μ { s with heap:=dw,toks:=tk }:=r.keepAll hk rfl rfl rfl
 have nC:∀ {h:Heap} {n:Nat},s.heap.objs.size<=n->lift R env h n=none:=λ {h n} hn=>by
  rw [zcc λ q=>absurd (r.own_lt q) (Nat.not_lt.mpr hn)];exact r.R_none hn
 have hL:(cellEnv fd s.heap.objs.size f).locals=s.heap.objs.size:=rfl
 have ck:∀ x c,(cellEnv fd s.heap.objs.size f).cells.lookup x=some c->(cellEnv fd s.heap.objs.size f).kindOf x=some .cell:=λ x c e=>by
  rcases zbd _ _ _ (zad e)with h | h
  ·exact ok4 _ h
  ·cases h
 have ca:∀ x c,(cellEnv fd s.heap.objs.size f).cells.lookup x=some c->s.heap.objs.size < c:=λ y c e=>x.above y c (zad e)
 have cc:∀ y,(cellEnv fd s.heap.objs.size f).kindOf y=some .cell->∃ c,(cellEnv fd s.heap.objs.size f).cells.lookup y=some c:=λ y e=>Option.isSome_iff_exists.mp (cellsFrom_some _ _ _ (.inl e))
 have kf:∀ y,(cellEnv fd s.heap.objs.size f).kindOf y=some .free->False:=λ y e=>ok3 _ (zad e) rfl
 have ownC:∀ a,Own (lift R env s.heap) (cellEnv fd s.heap.objs.size f) a->s.heap.objs.size<=a:=λ a h=>by
  rcases h with h | ⟨_,y,e,hc⟩
  ·rw [h,hL];exact an _
  ·exact az (ca _ _ hc)
 have ff:FrOk (lift R env s.heap) (cellEnv fd s.heap.objs.size f) (ps.zip args) g dw:=by
  refine⟨B.kind,B.globals,B.builtins,⟨_,x.toInCall.ns⟩,λ y e=>?_,λ y z c e h1 h2 Y=>name_of_addr x.apart (zad h1) (zad h2),λ y c e hc=>?_,λ b hb=>?_,λ Y y c e hc=>nC (az (ca _ _ hc)),λ y c e=>(kf y e).elim,λ y c hc=>.inl (ck y c hc),by rw [zaZ hl];exact nd,λ p hp=>?_⟩
  ·obtain⟨c,hc⟩:=cc y e;exact⟨c,_,hc,x.cell y c hc⟩
  ·rw [hL];exact bu (ca _ _ hc)
  ·have hb:=ownC b hb
   refine⟨nC hb,r.im_none hb,λ i p d h=>?_⟩
   have:=r.mu_lt h
   constructor <;> (first | exact aF (au (And.right ‹_›) ‹_›) | exact aF (au (And.left ‹_›) ‹_›) | omega)
  ·refine E12 (zdB (ps:=ps) hvs p hp) λ v hv vr=>?_
   refine⟨v,?_,vr⟩
   have nd':((ps.zip vs).map (·.1)).Nodup:=by rw [zaZ hlen];exact nd
   rcases ok5 _ (hin _ hv)with e | e
   ·exact .inl ⟨e,_,x.toInCall.ns,ze1 nd' (.inl hv) e⟩
   ·obtain⟨c,hc⟩:=cc _ e
    have:=x.cell _ c hc
    rw [zeA nd' (.inl hv) e]at this
    exact .inr ⟨.inl e,c,hc,this⟩
 have rc:=r.lifted r2 hk ff (by show X.base.objs.size<=s.heap.objs.size;have:=r.own_lt (a:=env.locals) (.inl rfl);have:=r.above;exact nT ‹_› (az ‹_›))
 exact h _ _ rc
theorem Cs.cells {fd:FuncData}{body:List Stmt}{ps:List Str}{args:List V}{f:Nat}{Q:V->Mem->Prop}(hf:fnLook X.K f=some fd)(hb:fd.body = .stmts body)(ok:cellB X.K fd ps=true)
  (bind:∀ vs:List Value,vs.length=ps.length->bindArgs fd ⟨vs,[]⟩=pure (ps.zip vs)) (nd:ps.Nodup) (hl:args.length=ps.length)
  (h:∀ R L,XB X l R (cellEnv fd L f) (ps.zip args) μ body (Post Q)):Cs X (l+1) (.ref f) args μ Q:=λ R env ρ g vs hvs A s a r =>
 ze3 hf hb ok bind nd hl hvs a.room r λ dw tk rc=>am (h _ _ g _ _ a.deeper rc) (λ fl s' hh=>hh.back r) λ Y Y e=>e.elim
end
abbrev bE:=@Cs.plain
abbrev dk:=@Cs.cells
section
variable {X:Ctx}{l:Nat}{R:Nat->Option Obj}{env:Env}{ρ:Loc}{g g':Gh}{μ dl:Mem}{s s':Shared}
noncomputable def CV (X:Ctx)(l:Nat)(R:Nat->Option Obj)(env:Env)(ρ:Loc)(μ:Mem)(f:Value)(xs:List V)(Q:V->Mem->Prop):Prop :=
 ∀ g vs,VRs g xs vs->Tr X l R env ρ g μ (call f vs) (VPst Q)
theorem CV.user {f:Value}{xs:List V}{Q:V->Mem->Prop}(h:Cs X l f xs μ Q):CV X l R env ρ μ f xs Q:=λ g vs hv=>(h R env ρ g vs hv).call
theorem CV.mono {f:Value}{xs:List V}{Q Q':V->Mem->Prop}(h:CV X l R env ρ μ f xs Q)(hQ:∀ x dl,Q x dl->Q' x dl):CV X l R env ρ μ f xs Q' :=
 λ g vs hv=>(h g vs hv).mono λ Y Y Y Y q9=>by obtain⟨x,v,q⟩:=q9;exact⟨x,v,hQ _ _ q⟩
noncomputable def calleeB (K:Frag):Value->Bool
 | .builtin _=>true
 | .type _=>true
 | f=>keepIn K f
theorem Tr.callWith {f:Value}{first:List Value}{fs:List V}{args:List Expr}{pos:Pos}{Q:V->Mem->Prop}(hc:calleeB X.K f=true)(hp:true=noStar args)(hf:VRs g fs first)
  (h:WL X l R env ρ μ args λ xs dt=>CV X l R env ρ dt f (fs ++ xs) Q):Tr X l R env ρ g μ (callWith pos f first (backTo pos (starEach args env)) []) (VPst Q):=by
 intro A s a r
 have key:wpAny (model X.prog X.w) A (spliced (backTo pos (starEach args env))) (λ vs dr=>X.K.In dr.heap/\wpAny (model X.prog X.w) A (call f (first ++ vs)) (TPst X R env ρ g (VPst Q)) (λ Y Y=>False) dr) (λ Y Y=>False) s:=by
  refine am (h g pos A s a r) (λ vs dr ⟨du,dp,dy,dz,xs,vx,q⟩=>⟨dz.kin,?_⟩) λ Y Y e=>e
  exact am (q du _ ((hf.mono dy).append vx) A dr a dz) (λ v dq q9=>by obtain⟨dC,dt,dB,dv,eE⟩:=q9;exact⟨dC,dt,dy.trans dB,dv,eE⟩) λ Y Y e=>e
 have evn:∀ {Q':Args->Shared->Prop},args=[]->wpAny (model X.prog X.w) A (spliced []) (λ vs s'=>Q' ⟨vs,[]⟩ s') (λ Y Y=>False) s->wpAny (model X.prog X.w) A (evalArgs f true [] []) Q' (λ Y Y=>False) s:=λ {Q'} _ h=>by
  unfold evalArgs
  show wpAny _ A (spliced [] >>= _) Q' _ s
  refine ag (am h (λ vs s' h'=>?_) λ Y Y x=>x)
  first
   | exact ag (ai (aP (ag (ai (ag (ai (ai h')))))))
   | exact aP (ag (ai (ag (ai (ai h')))))
 cases args with
 | nil =>
  induction f with
  | builtin id=>exact callWith_builtin rfl (evn rfl (am key (λ Y Y h=>h.2) λ Y Y e=>e))
  | type T=>exact PyProof.Rows.callWith_type rfl (evn rfl (am key (λ Y Y h=>h.2) λ Y Y e=>e))
  | ref b=>exact callWith_of rfl (keeps_K hc) (evn rfl key)
  | _=>cases hc
 | cons e rest =>
  obtain⟨he,hpl⟩:=zit (env:=env) hp
  have hpl':((false,eval e env) :: backTo pos (starEach rest env)).any (·.1)=false:=by show (false || _)=false;rw [hpl pos];rfl
  induction f with
  | ref b=>exact callWith_K r.kin hc key he (hpl pos)
  | builtin id =>
   rw [he]at key ⊢
   exact callWith_builtin hpl' (evalArgs_plain (am key (λ Y Y h=>h.2) λ Y Y e=>e))
  | type T =>
   rw [he]at key ⊢
   exact PyProof.Rows.callWith_type hpl' (evalArgs_plain (am key (λ Y Y h=>h.2) λ Y Y e=>e))
  | _=>cases hc
inductive KCl (X:Ctx)(l:Nat)(R:Nat->Option Obj)(env:Env)(ρ:Loc)(f:Value)(args:List Expr)(Q:V->Mem->Prop)(x:V)(dp:Mem):Prop
 | mk (e:x = .lit f) (h:WL X l R env ρ dp args λ xs dt=>CV X l R env ρ dt f xs Q):KCl X l R env ρ f args Q x dp
theorem W.call {id:Str}{p pos:Pos}{args:List Expr}{f:Value}{Q:V->Mem->Prop}(hn:W X l R env ρ μ (.Name id p) (KCl X l R env ρ f args Q))
  (hc:calleeB X.K f=true) (hp:true=noStar args:=by exact rfl):W X l R env ρ μ (.Call (.Name id p) args [] pos) Q:=by
 intro g A s a r
 refine wpAny_Call_NameR (am (hn g A s a r) (λ v dr hh=>?_) λ Y Y e=>e)
 obtain⟨du,dp,dy,dz,x,vx,e,dw⟩:=hh
 subst e
 obtain rfl:v=f:=vx
 exact am (Tr.callWith hc hp .nil dw A dr a dz) (λ Y Y hh=>hh.up dy) λ Y Y e=>e
noncomputable def GM (X:Ctx)(l:Nat)(R:Nat->Option Obj)(env:Env)(ρ:Loc)(μ:Mem)(x:V)(name:Str)(Q:Value->List V->Mem->Prop):Prop :=
 ∀ g v pl,VR g x v->Tr X l R env ρ g μ (getMethod v name pl) λ g' p dl=>∃ fs,VRs g' fs p.2/\Q p.1 fs dl
noncomputable def methB (K:Frag)(C:Nat)(name:Str)(f:Nat):Bool:=plainGet K C name && findIn K (.ref C) name == some (some (.ref f)) && isFn K (.ref f) && keepIn K (.ref f)
theorem GM.inst {k:Id}{C f:Nat}{fs:List (Str × V)}{name:Str}{Q:Value->List V->Mem->Prop}(hk:μ k=some (.inst C fs))(hm:methB X.K C name f=true)(hn:name∉fs.map (·.1))(q:Q (.ref f) [.ref k] μ):GM X l R env ρ μ (.ref k) name Q:=by
 intro g v pl vr0 A s ao r
 refine E45 (r.inst hk) λ a d es n hg h1 nd I h4=>?_
 apply refE vr0 hg
 obtain⟨m,F⟩:=r.fr_
 unfold methB at hm
 simp only [bl,beq_iff_eq]at hm
 obtain⟨⟨⟨h5,h6⟩,h7⟩,h8⟩:=hm
 exact method_inst F X.kin I h5 h6 h7 (h4.getNone hn) ⟨g,μ,.rfl,r,[.ref k],.cons ⟨_,_,rfl,hg⟩ .nil,q⟩
structure MethOk (T id:String)(name:Str):Prop where
 pa:PlainAttrs T
 slot:Slot T name id
 ty:typeOf (.builtin id)=pure (.type "method_descriptor")
theorem GM.str {z:Str}{id:String}{name:Str}{Q:Value->List V->Mem->Prop}(m:MethOk "str" id name)(q:Q (.builtin id) [.str z] μ):GM X l R env ρ μ (.str z) name Q:=by
 rintro g v pl ⟨t,rfl⟩ A s ao r
 exact getMethod_builtin (by rfl) m.pa m.slot m.ty (λ a e=>by cases e) ⟨g,μ,.rfl,r,[.str z],.cons ⟨_,rfl⟩ .nil,q⟩
theorem GM.list {x:V}{xs:List V}{id:String}{name:Str}{Q:Value->List V->Mem->Prop}(m:MethOk "list" id name)(hx:RdL μ x xs)(q:Q (.builtin id) [x] μ):GM X l R env ρ μ x name Q:=by
 intro g v pl vr A s ao r
 obtain⟨a,items,rfl,⟨n,hl⟩,hv⟩:=r.list hx vr
 exact getMethod_builtin (T:="list") ⟨_,hl,rfl⟩ m.pa m.slot m.ty (λ a e=>by cases e;exact⟨_,hl,rfl⟩) ⟨g,μ,.rfl,r,[x],.cons vr .nil,q⟩
inductive IsD:MO->Prop
 | i {es:List (Int × V)}:IsD (.dI es)
 | t {es:List (List KA × V)}:IsD (.dT es)
theorem Rep.dict (r:Rep X R env ρ g μ s){k:Id}{o:MO}{v:Value}(hk:μ k=some o)(hd:IsD o)(vr:VR g (.ref k) v):∃ a ob,v = .ref a/\s.heap.get? a=some ob/\ob.ExactDict:=by
 refine E22 (r.mu _ _ hk) λ a d hg y=>?_
 apply refE vr hg
 cases hd <;> (refine E03 (y) λ _ _ q7=>?_;obtain⟨ob,_,_,ho,hx,_⟩:=q7;exact⟨a,ob,rfl,ho,hx⟩)
theorem GM.dict {k:Id}{o:MO}{id:String}{name:Str}{Q:Value->List V->Mem->Prop}(m:MethOk "dict" id name)(hk:μ k=some o)(hd:IsD o)(q:Q (.builtin id) [.ref k] μ):GM X l R env ρ μ (.ref k) name Q:=by
 intro g v pl vr A s ao r
 refine E23 (r.dict hk hd vr) λ a ob q9 ho hx=>?_;subst q9
 exact getMethod_builtin (T:="dict") ⟨_,ho,hx.1⟩ m.pa m.slot m.ty (λ a e=>by cases e;exact⟨_,ho,hx.2.1⟩) ⟨g,μ,.rfl,r,[.ref k],.cons vr .nil,q⟩
inductive KMa (X:Ctx)(l:Nat)(R:Nat->Option Obj)(env:Env)(ρ:Loc)(args:List Expr)(Q:V->Mem->Prop)(f:Value)(fs:List V)(dt:Mem):Prop
 | mk (e:calleeB X.K f=true) (h:WL X l R env ρ dt args λ xs dK=>CV X l R env ρ dK f (fs ++ xs) Q):KMa X l R env ρ args Q f fs dt
noncomputable abbrev KMe (X:Ctx)(l:Nat)(R:Nat->Option Obj)(env:Env)(ρ:Loc)(name:Str)(args:List Expr)(Q:V->Mem->Prop):V->Mem->Prop:=λ x dp=>GM X l R env ρ dp x name (KMa X l R env ρ args Q)
theorem W.meth {o:Expr}{name:Str}{apos pos:Pos}{args:List Expr}{pl:Sem Bool}{Q:V->Mem->Prop}
  (h:W X l R env ρ μ o (KMe X l R env ρ name args Q))
  (hp:true=noStar args:=by exact rfl)
  (he:(eval ((o.Attribute name apos).Call args [] pos) env=do
     let ov <- eval o env
     standAt apos.atName
     let x <- PySem.holding [ov] (getMethod ov name pl)
     match x with
      | (f,first)=>PySem.callWith pos f first (backTo pos (starEach args env)) (backToKw pos (keywordEach [] env))):=by rfl):W X l R env ρ μ (.Call (.Attribute o name apos) args [] pos) Q:=by
 intro g A s a r
 refine methodCall_KW (pl:=pl) (am (h g A s a r) (λ v dr hh=>?_) λ Y Y e=>e) he
 obtain⟨du,dp,dy,dz,x,vx,dw⟩:=hh
 refine am (dw du v _ vx A dr a dz) (λ p dq hh=>?_) λ Y Y e=>e
 obtain⟨dC,dt,dB,dv,fs,vf,hc,dJ⟩:=hh
 exact am (Tr.callWith hc hp vf dJ A dq a dv) (λ Y Y hh=>hh.up (dy.trans dB)) λ Y Y e=>e
end
abbrev aU:=@CV.user
abbrev aW:=@W.meth
abbrev bc:=@GM.inst
abbrev cL:=@GM.list
abbrev de:=@W.call
section
variable {X:Ctx}{l:Nat}{R:Nat->Option Obj}{env:Env}{ρ:Loc}{g g':Gh}{μ dl:Mem}{s s':Shared}
noncomputable def newsOf (base h:Heap)(L:Nat)(skip:Nat->Bool):List (Addr × Obj):=(List.range h.objs.size).filterMap λ (a:Nat)=>if a=L∨skip a=true then none else match base.get? a,h.get? a with | none,some o=>some ((a:Addr),o) | _,_=>none
set_option tactic.hygienic true in
theorem zaR {base h:Heap}{L:Nat}{skip:Nat->Bool}{a:Nat}{o:Obj}:((a:Addr),o)∈newsOf base h L skip↔a≠L/\skip a=false/\base.get? a=none/\h.get? a=some o:=by
 unfold newsOf
 rw [List.mem_filterMap]
 constructor
 ·intro q0;refine E12 (q0) λ b hb e=>?_;clear q0
  split at e
  ·cases e
  ·rename_i hn
   split at e
   ·rename_i o' h1 h2
    cases e
    rw [not_or]at hn
    exact⟨hn.1,by simpa using hn.2,h1,h2⟩
   ·cases e
 ·rintro⟨h1,h2,h3,h4⟩
  refine⟨a,List.mem_range.mpr (aO h4),?_⟩
  rw [aw (by rw [not_or];exact⟨h1,by simp [h2]⟩),h3,h4]
theorem zam {base h:Heap}{L:Nat}{skip:Nat->Bool}:News base L h (newsOf base h L skip):=λ p hp=>by
 obtain⟨h1,h2,h3,h4⟩:=zaR.mp hp
 exact⟨h4,h1,h3⟩
theorem zci {base h h':Heap}{L:Nat}{skip:Nat->Bool}{m:Str->Option Value}(F:Fr base L h' m)(k0:∀ b o,base.get? b=some o->h.get? b=some o)(N:News base L h' (newsOf base h L skip)) :
  ∀ a o,a≠L->skip a=false->h.get? a=some o->h'.get? a=some o:=λ a o h1 h2 h3=>by
 induction hb:base.get? a with
 | none=>exact(N _ (zaR.mpr ⟨h1,h2,hb,h3⟩)).1
 | some o' =>
  have:=k0 _ _ hb
  rw [h3]at this;cases this
  exact F.keep _ _ hb
theorem zgE {h h':Heap}{L:Nat}{m:Str->Option Value}(hm:h.Ns L m)(hm':h'.Ns L m):∀ m2,h.Ns L m2->h'.Ns L m2:=λ m2 h2=>by
 refine E34 (hm) λ o1 es1 ep1 a1 b1 c1 d1=>?_
 refine E34 (h2) λ o2 es2 ep2 a2 b2 c2 d2=>?_
 rw [a1]at a2;cases a2
 rw [b1]at b2;cases b2
 obtain rfl:m=m2:=by funext x;rw [<- d1,d2]
 exact hm'
theorem Rep.most (r:Rep X R env ρ g μ s)(k:∀ b o,b≠env.locals->s.heap.get? b=some o->s'.heap.get? b=some o)(kl:∀ m,s.heap.Ns env.locals m->s'.heap.Ns env.locals m)
  (hg:s'.gens=s.gens) (ho:s'.os=s.os) (hd:s'.drawn=s.drawn):Rep X R env ρ g μ s':=by
 have oL:=r.fr.own env.locals (.inl rfl)
 have kR:∀ b o,R b=some o->s'.heap.get? b=some o:=λ b o h=>k b o (by rintro rfl;rw [oL.1]at h;cases h) (r.res b o h)
 refine⟨r.baseR,kR,r.above,λ b w e=>?_,r.imr,λ j o' h=>?_,r.dom,r.sep,r.off,?_,hg.trans r.gens,ho.trans r.os,trivial⟩
 ·exact(r.im b w e).mono .rfl λ o' h=>k b o' (by rintro rfl;rw [oL.2.1]at e;cases e) h
 ·refine E22 (r.mu j o' h) λ b e e1 z=>?_
  obtain⟨n1,n2⟩:=oL.2.2 j b e e1
  exact⟨b,e,e1,z.mono .rfl (λ o h=>k b o n1 h) λ o h=>k e o n2 h⟩
 ·exact r.fr.keep .rfl kR r.res kl (λ x c o e hc hR h=>k c o (r.fr.off x c e hc) h) λ b hb=>(r.fr.own b hb).2
theorem Fre.gone {n:Nat}(r:Rep X R env ρ g μ s)(h:s.heap.get? n=none)(hl:n≠env.locals):Fre R env g n:=by
 refine⟨?_,?_,λ k p d e=>?_,hl,λ x e=>?_⟩
 ·induction hR:R n with
  | none=>rfl
  | some o=>rw [r.res _ _ hR]at h;cases h
 ·induction hi:g.im n with
  | none=>rfl
  | some v =>
   have:=r.im _ _ hi
   cases v with
   | tup l=>obtain⟨_,⟨o,ho,_⟩,_⟩:=this;rw [h]at ho;cases ho
   | lst l=>obtain⟨_,⟨_,ho⟩,_⟩:=this;rw [h]at ho;cases ho
   | rng p q=>refine E31 (this) λ _ _ _ ho=>?_;exact absurd (h.symm.trans ho) nofun
   | set b l=>refine E32 (this) λ _ _ _ ho _=>?_;rw [h]at ho;cases ho
   | _=>exact this.elim
 ·refine E12 (r.mu_of e) λ o hm y=>?_
  dsimp only at y
  induction o with
  | list l=>obtain⟨rfl,_,⟨_,ho⟩,_⟩:=y;constructor <;> (rintro rfl;rw [h]at ho;cases ho)
  | dI l=>obtain⟨rfl,_,o,_,_,ho,_⟩:=y;constructor <;> (rintro rfl;rw [h]at ho;cases ho)
  | dT l=>obtain⟨rfl,_,o,_,_,ho,_⟩:=y;constructor <;> (rintro rfl;rw [h]at ho;cases ho)
  | inst C fs =>
   refine E04 (y) λ _ _ ho q7=>?_;obtain⟨_,_,hd,_⟩:=q7
   constructor
   ·rintro rfl;rw [h]at ho;cases ho
   ·rintro rfl;rw [h]at hd;cases hd
  | dF l n=>obtain⟨rfl,_,o,_,ho,_⟩:=y;constructor <;> (rintro rfl;rw [h]at ho;cases ho)
  | vw k'=>obtain⟨rfl,q8⟩:=y;refine E22 q8 λ o _ ho _=>?_;clear q8;constructor <;> (rintro rfl;rw [h]at ho;cases ho)
 ·have f:=r.fr
  rcases f.ck x n e with k | k
  ·refine E22 (f.cell x k) λ c v hc q7=>?_;obtain⟨o,ho,_⟩:=q7;rw [e]at hc;cases hc;rw [h]at ho;cases ho
  ·obtain⟨o,hR⟩:=f.free x n k e;rw [r.res _ _ hR]at h;cases h
noncomputable def newB (K:Frag)(C fI:Nat):Bool:=makesIn K C && findIn K (.ref C) "__init__" == some (some (.ref fI)) && isFn K (.ref fI)
theorem CV.new {C fI:Nat}{k:Id}{args:List V}{Q:V->Mem->Prop}(hb:newB X.K C fI=true)(hk:μ k=none)(h:Cs X l (.ref fI) (.ref k :: args) (μ.set k (.inst C [])) λ x dl=>x = .none/\Q (.ref k) dl) :
  CV X (l+1) R env ρ μ (.ref C) args Q:=by
 intro g vs hv A s a r
 obtain⟨m,F⟩:=r.fr_
 unfold newB at hb
 simp only [bl,beq_iff_eq]at hb
 obtain⟨⟨hm,hi⟩,hf⟩:=hb
 refine call_cls F X.kin (zam (skip:=λ Y=>false)) hm hi hf λ x dx h' F' N' hlt hxd=>?_
 have Nt:News X.base env.locals h' (newsOf X.base s.heap env.locals λ Y=>false):=λ p hp=>N' p (.tail _ (.tail _ hp))
 have kk:=zci F' r.base Nt
 obtain⟨x1,x2,x3⟩:=N' _ (.head _)
 obtain⟨d1,d2,d3⟩:=N' _ (.tail _ (.head _))
 have r1:Rep X R env ρ g μ { s with heap:=h' }:=r.most (λ b o hb h=>kk b o hb rfl h) (zgE F.ns F'.ns) rfl rfl rfl
 have fresh:∀ {n:Nat},dx<=n->n≠env.locals->X.base.get? n=none->s.heap.get? n=none:=λ {n} h1 h2 h3=>by
  induction e:s.heap.get? n with
  | none=>rfl
  | some o=>exact absurd (hlt _ (zaR.mpr ⟨h2,rfl,h3,e⟩)) (Nat.not_lt.mpr h1)
 have fx:Fre R env g x:=.gone r (fresh (az hxd) x2 x3) x2
 have fd:Fre R env g dx:=.gone r (fresh (an _) d2 d3) d2
 obtain⟨le1,r2⟩:=r1.adoptMu (o:=.inst C []) hk fx fd ⟨aF hxd,by simp,x1,[],0,d1,.nil⟩
 have a1:AOk X (A.under (.builtin "type.__call__" ⟨.ref C :: vs,[]⟩)) l:=by
  have hw:(A.under (.builtin "type.__call__" ⟨.ref C :: vs,[]⟩)).depth=A.depth+1:=rfl
  have hu:(A.under (.builtin "type.__call__" ⟨.ref C :: vs,[]⟩)).units=A.units+1:=rfl
  refine⟨a.handled,?_,?_,Nat.le_of_succ_le a.lid,λ h=>absurd (au (bw l) a.lid) (Nat.not_lt.mpr h),a.fr⟩
  ·rw [hw];have:=a.depth;exact nrr (by decide) ‹_›
  ·rw [hu];have:=a.units;exact nrr (by decide) ‹_›
 refine codeAny_mono (h R env ρ (g.newMu k (x,dx)) (.ref x :: vs) (.cons ⟨x,dx,rfl,by simp [Gh.newMu]⟩ (hv.mono le1)) _ _ a1 r2) λ res s' hr=>?_
 cases res with
 | error e=>exact hr.elim
 | ok fl=>cases fl with
  | ret v =>
   obtain⟨g',dl,le',r',z,vr,hz,q⟩:=hr
   subst hz
   exact⟨vr,g',dl,le1.trans le',r',.ref k,⟨x,dx,rfl,le'.2 _ _ (by simp [Gh.newMu])⟩,q⟩
  | _=>exact hr.elim
noncomputable def SA (X:Ctx)(l:Nat)(R:Nat->Option Obj)(env:Env)(ρ:Loc)(μ:Mem)(x:V)(name:Str)(v:V)(Q:Mem->Prop):Prop :=
 ∀ g xv vv,VR g x xv->VR g v vv->Tr X l R env ρ g μ (setAttr xv name vv) λ Y Y dl=>Q dl
theorem SA.field {k:Id}{C:Nat}{fs fs':List (Str × V)}{name:Str}{v:V}{Q:Mem->Prop}(hk:μ k=some (.inst C fs))(u:Up fs name v fs')(hf:storeOk X.K C name=true)(hl:fs'.length<=1000)(q:Q (μ.set k (.inst C fs'))) :
  SA X l R env ρ μ (.ref k) name v Q:=by
 intro g xv vv vr0 vr A s ao r
 refine E45 (r.inst hk) λ a d es n hg h1 nd I h4=>?_
 apply refE vr0 hg
 obtain⟨m,F⟩:=r.fr_
 unfold storeOk at hf
 simp only [bl,beq_iff_eq]at hf
 obtain⟨⟨⟨f1,f2⟩,f3⟩,f4⟩:=hf
 refine E04 (r.off _ _ _ hg) λ o1 o2 o3 o4=>?_
 have oL:=(r.fr.own env.locals (.inl rfl)).2.2 _ _ _ hg
 have bn:∀ {b:Nat},R b=none->X.base.get? b=none:=λ {b} h=>by
  induction e:X.base.get? b with
  | none=>rfl
  | some o=>rw [r.baseR _ _ e]at h;cases h
 have hd:s.heap.get? d=some (dictOf es n):=by obtain⟨_,_,_,h⟩:=I;exact h
 have N:News X.base env.locals s.heap ((d,dictOf es n) :: newsOf X.base s.heap env.locals λ b=>b == d):=λ p hp=>by
  rcases List.mem_cons.mp hp with rfl | hp
  ·exact⟨hd,oL.2,bn o4⟩
  ·exact zam p hp
 have hput:=h4.put u (t:=s.toks+1) vr
 refine W.set_dict F X.kin N I rfl f1 f2 f3 f4 (h4.getAny name) rfl (.head λ p hp e=>?_) (hput.length▸hl) λ h' F' N'=>?_
 ·obtain⟨_,h2,_⟩:=zaR.mp hp;rw [e]at h2;simp at h2
 have Nt:News X.base env.locals h' (newsOf X.base s.heap env.locals λ b=>b == d):=λ p hp=>N' p (.tail _ hp)
 have kk:=zci F' r.base Nt
 have hd':=(N' _ (.head _)).1
 have ha':h'.get? a=some (instObj C d):=kk a _ oL.1 (by simpa using cp h1) I.at_
 refine⟨g,_,.rfl,r.updMu (s':={ s with heap:=h',toks:=s.toks+2 }) (o:=.inst C fs') hg (λ b o h1 h2 h3=>kk b o h2 (by simpa using h1) h3) (zgE F.ns F'.ns) ⟨h1,u.nodup nd,ha',_,_,hd',hput⟩ rfl rfl rfl,q⟩
theorem XS.setAttr {o value:Expr}{attr:Str}{p pos:Pos}{Q:Fl->Loc->Mem->Prop}(h:W X l R env ρ μ value λ v dp=>W X l R env ρ dp o λ x dt=>SA X l R env ρ dt x attr v λ dK=>Q .next ρ dK)
  (hs:pure false=swapsWith value (some (.Attribute o attr p)) pos.line env:=by exact rfl):XS X l R env ρ μ (.Assign [.Attribute o attr p] value pos) Q:=by
 intro g A s a r
 refine plainObj_wpAny_Assign_Attribute (am (h g A s a r) (λ v dr hh=>?_) λ Y Y e=>e) hs.symm
 obtain⟨du,dp,dy,dz,x,vx,dw⟩:=hh
 refine am (dw du A dr a dz) (λ u dq hh=>?_) λ Y Y e=>e
 obtain⟨dC,dt,dB,dv,y,vy,dJ⟩:=hh
 exact am (dJ dC u v vy (vx.mono dB) A dq a dv) (λ Y Y q9=>by obtain⟨d8,dK,dU,dS,q⟩:=q9;exact⟨d8,ρ,dK,.next,(dy.trans dB).trans dU,dS,rfl,q⟩) λ Y Y e=>e
end
abbrev cN:=@SA.field
section
variable {X:Ctx}{l:Nat}{R:Nat->Option Obj}{env:Env}{ρ:Loc}{g g':Gh}{μ dl:Mem}{s s':Shared}
theorem Rep.mlist (r:Rep X R env ρ g μ s){k:Id}{xs:List V}{v:Value}(hk:μ k=some (.list xs))(vr:VR g (.ref k) v):∃ (a:Nat) (n:Nat) (items:Array Value),v = .ref a/\g.mu k=some (a,a)/\IsL s.heap a items n/\VRs g xs items.toList:=by
 obtain⟨a,d,hg,rfl,items,⟨n,hl⟩,hv⟩:=r.mu _ _ hk
 apply refE vr hg
 exact⟨_,n,items,rfl,hg,hl,hv⟩
theorem Rep.setList (r:Rep X R env ρ g μ s){k:Id}{ys:List V}{a:Nat}{n:Nat}{items items':Array Value}(hg:g.mu k=some (a,a))(hl:IsL s.heap a items n)(f:Array Value->Array Value)(hf:f items=items')(hv:VRs g ys items'.toList){t:Nat} :
  Rep X R env ρ g (μ.set k (.list ys)) { s with heap:=s.heap.update a (Obj.mapSeq f),toks:=t }:=by
 have hsb:Heap.SameBut a s.heap (s.heap.update a (Obj.mapSeq f)):=Heap.SameBut.update ..
 have oL:=(r.fr.own env.locals (.inl rfl)).2.2 _ _ _ hg
 refine r.updMu (s':={ s with heap:=s.heap.update a (Obj.mapSeq f),toks:=t }) (o:=.list ys) hg (λ b o h1 Y h3=>(hsb.2 b h1).trans h3) (zeX λ o h=>(hsb.2 _ (cp oL.1)).trans h) ⟨rfl,items',?_,hv⟩ rfl rfl rfl
 rw [<- hf]
 exact⟨_,IsL.update hl f⟩
theorem vr2 {vs:List Value}{x y:V}(h:VRs g [x,y] vs):∃ v u,vs=[v,u]/\VR g x v/\VR g y u:=by
 refine E23 (h.inv) λ v _ q9 a h2=>?_;subst q9
 refine E23 (h2.inv) λ u _ e b h=>?_
 exact⟨v,u,cw _ (e.trans (cw _ h.inv0)),a,b⟩
theorem vr1 {vs:List Value}{x:V}(h:VRs g [x] vs):∃ v,vs=[v]/\VR g x v:=by
 refine E23 (h.inv) λ v _ e a h=>?_
 exact⟨v,e.trans (cw _ h.inv0),a⟩
theorem CV.append {k:Id}{xs:List V}{x:V}{Q:V->Mem->Prop}(hk:μ k=some (.list xs))(hz:xs.length<=sizeLine)(q:Q .none (μ.set k (.list (xs ++ [x])))):CV X l R env ρ μ (.builtin "list.append") [.ref k,x] Q:=by
 intro g vs hv A s a r
 refine E23 (vr2 hv) λ v u q9 h1 h2=>?_;subst q9
 refine E34 (r.mlist hk h1) λ b n items q9 hg hl hvs=>?_;subst q9
 have hsz:items.size<=sizeLine:=by have:=hvs.length;simp only [aE]at this;simp_all
 refine call_meets F.slot_list_append ⟨_,hl,rfl⟩ F.entry_list_append (F.args_list_append_2 _ _) (PySem.list_append b items n u hsz) ⟨hl,?_⟩
 exact⟨g,_,.rfl,r.setList hg hl (λ x=>x.push u) rfl (by rw [Array.toList_push];exact hvs.snoc h2),.none,rfl,q⟩
theorem CV.pop {k:Id}{xs:List V}{x:V}{Q:V->Mem->Prop}(hk:μ k=some (.list (xs ++ [x])))(hz:xs.length < sizeLine)(q:Q x (μ.set k (.list xs))):CV X l R env ρ μ (.builtin "list.pop") [.ref k] Q:=by
 intro g vs hv A s a r
 refine E12 (vr1 hv) λ v q9 h1=>?_;subst q9
 refine E34 (r.mlist hk h1) λ b n items q9 hg hl hvs=>?_;subst q9
 have hlen:=hvs.length
 simp only [aE,aC,bS]at hlen
 refine E12 (hvs.getA (i:=items.size - 1) (x:=x) (by rw [<- hlen];simp)) λ y hy vy=>?_
 refine call_meets F.slot_list_pop ⟨_,hl,rfl⟩ F.entry_list_pop (F.args_list_pop_1 _) (MeetsSeq.list_pop_last b items n y hy (by exact nT (aG (bo ‹_›)) ‹_›)) ⟨hl,?_⟩
 have e:items.eraseIdxIfInBounds (items.size - 1)=(items.toList.take xs.length).toArray:=by
  unfold Array.eraseIdxIfInBounds
  rw [dif_pos (by omega)]
  apply Array.toList_inj.mp
  rw [Array.toList_eraseIdx,List.eraseIdx_eq_take_drop_succ]
  have:items.size - 1=xs.length:=by lia
  rw [this,List.drop_eq_nil_of_le (by simp;exact aG (bo ‹_›)),cM]
 refine⟨g,_,.rfl,r.setList hg hl _ e ?_,x,vy,q⟩
 have:=hvs.take xs.length
 simpa using this
theorem CV.extend {k:Id}{xs ys:List V}{y:V}{Q:V->Mem->Prop}(hk:μ k=some (.list xs))(hy:RdL μ y ys)(hz:xs.length+ys.length<=1000000)(q:Q .none (μ.set k (.list (xs ++ ys)))):CV X l R env ρ μ (.builtin "list.extend") [.ref k,y] Q:=by
 intro g vs hv A s a r
 refine E23 (vr2 hv) λ v u q9 h1 h2=>?_;subst q9
 refine E34 (r.mlist hk h1) λ b n items q9 hg hl hvs=>?_;subst q9
 obtain⟨c,items2,rfl,⟨n2,hl2⟩,hvs2⟩:=r.list hy h2
 have e1:=hvs.length
 have e2:=hvs2.length
 simp only [aE]at e1 e2
 have hline:(1000000:Nat)<=sizeLine:=by decide
 have hdoor:¬(!items.isEmpty && Builtin.List.listTooLong (items.size+items2.size))=true:=by
  unfold Builtin.List.listTooLong
  simp
  intro _
  lia
 refine call_meets F.slot_list_extend ⟨_,hl,rfl⟩ F.entry_list_extend (F.args_list_extend_2 _ _) (AutoSeq1.list_extend_list_list_0 b items n c items2 n2 hdoor (by lia) (by lia)) ⟨hl,hl2,?_⟩
 exact⟨g,_,.rfl,r.setList hg hl (λ x=>x ++ items2) rfl (by rw [Array.toList_append];exact hvs.append hvs2),.none,rfl,q⟩
theorem zhQ {A:Around}{E:Value->Shared->Prop}{b:Addr}{items:Array Value}{n:Nat}{k:Int}{t:Tok}{v:Value}{Q:Unit->Shared->Prop}(hl:IsL s.heap b items n)(h0:0<=k)(hfit:k < 2 ^ 63)(hn:k < items.size)
  (hQ:Q () { s with heap:=s.heap.update b (Obj.mapSeq (·.setIfInBounds k.toNat v)) }):wpAny (model X.prog X.w) A (setItem (.ref b) (.int k t) v) Q E s:=by
 have hT:s.TypeIs (.ref b) "list":=⟨_,hl,rfl⟩
 unfold setItem
 refine aP ?_
 refine ag (wpAny_sequenceKey hT (by decide) ?_)
 refine ag (wpAny_callSpecial?_slot (name:=Str.ofString "__setitem__") hT slot_list_setitem
  (bq slot_list_setitem hT entry_list_setitem ?_ (args_list_setitem _ _ _)))
 show wpAny _ _ (Builtin.List.listSubscript? (.int k t) >>= _) _ _ s
 refine ag (wpAny_listSubscript_int (fitsIndex_of h0 hfit) ?_)
 clear hfit
 obtain⟨j,rfl⟩:=Int.eq_ofNat_of_zero_le h0
 have hx':items[j]? = some items[j]:=bp (by simp_all)
 show wpAny _ _ ((seqItemAt b j >>= λ r=>pure (r.map (j,·))) >>= _) _ _ s
 refine ag (ag (wpAny_seqItemAt hl rfl (ai ?_)))
 rw [hx']
 refine ag (wpAny_setSeqItemAt hl rfl ?_)
 first
  | exact ag (ai (ai ⟨.none,rfl,ai hQ⟩))
  | exact ai ⟨.none,rfl,ai hQ⟩
noncomputable def SI (X:Ctx)(l:Nat)(R:Nat->Option Obj)(env:Env)(ρ:Loc)(μ:Mem)(x i v:V)(Q:Mem->Prop):Prop :=
 ∀ g xv iv vv,VR g x xv->VR g i iv->VR g v vv->Tr X l R env ρ g μ (setItem xv iv vv) λ Y Y dl=>Q dl
theorem SI.list {k:Id}{xs:List V}{i:Nat}{v:V}{Q:Mem->Prop}(hk:μ k=some (.list xs))(hi:i < xs.length)(hz:xs.length<=sizeLine)(q:Q (μ.set k (.list (xs.set i v)))):SI X l R env ρ μ (.ref k) (.int i) v Q:=by
 rintro g xv iv vv h1 ⟨t,rfl⟩ h3 A s a r
 refine E34 (r.mlist hk h1) λ b n items q9 hg hl hvs=>?_;subst q9
 have hlen:=hvs.length
 simp only [aE]at hlen
 have hsl:sizeLine < 2 ^ 63:=by decide
 refine zhQ hl (Int.natCast_nonneg i) (by lia) (by simp_all) ?_
 exact⟨g,_,.rfl,r.setList hg hl (λ x=>x.setIfInBounds (i:Int).toNat vv) rfl (by rw [Array.toList_setIfInBounds];exact hvs.set h3 i),q⟩
theorem XS.setItem {o i value:Expr}{p pos:Pos}{Q:Fl->Loc->Mem->Prop}(h:W X l R env ρ μ value λ v dp=>W X l R env ρ dp o λ x dt=>W X l R env ρ dt i λ y dK=>SI X l R env ρ dK x y v λ ew=>Q .next ρ ew)
  (hs:pure false=swapsWith value (some (.Subscript o i p)) pos.line env:=by exact rfl):XS X l R env ρ μ (.Assign [.Subscript o i p] value pos) Q:=by
 intro g A s a r
 refine wpAny_Assign_Subscript (am (h g A s a r) (λ v dr hh=>?_) λ Y Y e=>e) hs.symm
 obtain⟨du,dp,dy,dz,x,vx,dw⟩:=hh
 refine am (dw du A dr a dz) (λ u dq hh=>?_) λ Y Y e=>e
 obtain⟨dC,dt,dB,dv,y,vy,dJ⟩:=hh
 refine am (dJ dC A dq a dv) (λ w d6 hh=>?_) λ Y Y e=>e
 obtain⟨d8,dK,dU,dS,z,vz,eJ⟩:=hh
 exact am (eJ d8 u w v (vy.mono dU) vz (vx.mono (dB.trans dU)) A d6 a dS) (λ Y Y q9=>by obtain⟨eK,ew,ey,d9,q⟩:=q9;exact⟨eK,ρ,ew,.next,((dy.trans dB).trans dU).trans ey,d9,rfl,q⟩) λ Y Y e=>e
theorem P2.addL {x y:V}{xs ys:List V}{Q:V->Mem->Prop}(hx:RdL μ x xs)(hy:RdL μ y ys)(hz:xs.length+ys.length<=sizeLine)(q:NewList μ (xs ++ ys) Q):P2 X l R env ρ μ (binaryOp .Add) x y Q:=by
 intro g v u h1 h2 A s a r
 obtain⟨b,items,rfl,⟨n,hl⟩,hvs⟩:=r.list hx h1
 obtain⟨c,items2,rfl,⟨n2,hl2⟩,hvs2⟩:=r.list hy h2
 have e1:=hvs.length
 have e2:=hvs2.length
 simp only [aE]at e1 e2
 refine P.add_list (n:=n) (n2:=n2) hl hl2 ?_ (by simp_all)
 exact r.newLst (hvs.append hvs2) q (s':={ s with heap:=s.heap.push { cls:=.type "list",data:=.seq (items ++ items2) } }) (an _) (λ Y Y h=>ay _ h) ⟨0,by rw [aJ _ rfl];simp⟩ rfl rfl rfl
theorem Rep.fromNews (r:Rep X R env ρ g μ s){m:Str->Option Value}{h':Heap}{pre:List (Addr × Obj)}(F:Fr X.base env.locals s.heap m)(F':Fr X.base env.locals h' m)(N:News X.base env.locals h' (pre ++ newsOf X.base s.heap env.locals λ Y=>false)){t:Nat} :
  Rep X R env ρ g μ { s with heap:=h',toks:=t } :=
 r.most (λ b o hb h=>zci F' r.base (λ p hp=>N p (List.mem_append_right _ hp)) b o hb rfl h) (zgE F.ns F'.ns) rfl rfl rfl
theorem Rep.tup' (r:Rep X R env ρ g μ s){v:Value}{xs:List V}(vr:VR g (.tup xs) v):∃ (a:Nat) (vs:List Value),v = .ref a/\g.im a=some (.tup xs)/\IsTup s.heap a vs.toArray/\VRs g xs vs:=by
 obtain⟨a,rfl,h⟩:=vr;refine E12 (r.im _ _ h) λ items hl hv=>?_;exact⟨a,items.toList,rfl,h,by simpa using hl,hv⟩
theorem VRs.nil_of' {xs:List V}(h:VRs g xs []):xs=[]:=by cases h;rfl
theorem P2.addT {xs ys:List V}{Q:V->Mem->Prop}(hz:xs.length+ys.length<=sizeLine)(q:Q (.tup (xs ++ ys)) μ):P2 X l R env ρ μ (binaryOp .Add) (.tup xs) (.tup ys) Q:=by
 intro g v u h1 h2 A s a r
 refine E24 (r.tup' h1) λ b vs q9 hb ht hvs=>?_;subst q9
 refine E24 (r.tup' h2) λ c ws q9 hc ht2 hvs2=>?_;subst q9
 have e1:=hvs.length
 have e2:=hvs2.length
 obtain⟨m,F⟩:=r.fr_
 refine add_tuples F (zam (skip:=λ Y=>false)) ht ht2 (λ e=>?_) (λ Y e=>?_) (λ Y Y h' F' N'=>?_) (by simp_all)
 ·subst e
  obtain rfl:=hvs.nil_of'
  exact⟨g,μ,.rfl,r,.tup ys,⟨_,rfl,hc⟩,q⟩
 ·subst e
  obtain rfl:=hvs2.nil_of'
  rw [cM]at q
  exact⟨g,μ,.rfl,r,.tup xs,⟨_,rfl,hb⟩,q⟩
 ·have r1:Rep X R env ρ g μ { s with heap:=h' }:=r.fromNews (pre:=[_]) F F' N'
  obtain⟨le,r2⟩:=r1.adoptIm (v:=.tup (xs ++ ys)) (n:=s.heap.objs.size) (.newest r (an _) (zaM r)) ⟨_,⟨_,(N' _ (.head _)).1,rfl,_,rfl⟩,by simpa using hvs.append hvs2⟩
  exact⟨_,μ,le,r2,.tup (xs ++ ys),⟨_,rfl,by simp [Gh.newIm]⟩,q⟩
theorem zg4 {α:Type}(n:Nat)(c:Nat->Bool):∀ (xs:List α) (j:Nat),(∀ k,j<=k->k < j+xs.length->c k=decide (n<=k))->(xs.zipIdx j).filterMap (λ p=>if c p.2=true then none else some p.1)=xs.take (n - j)
 | [],j,h=>by simp
 | x :: xs,j,h=>by
  rw [List.zipIdx_cons,List.filterMap_cons]
  have h0:=h j (an _) (by simp)
  have ih:=zg4 n c xs (j+1) λ k h1 h2=>h k (by exact az (by assumption)) (by simp at h2 ⊢;exact nqC ‹_›)
  dsimp only
  rw [h0]
  by_cases hn:n<=j
  ·have e1:n - j=0:=by simp_all
   have e2:n - (j+1)=0:=by exact nqB ‹_›
   simp only [hn,decide_true,if_true]
   rw [ih,e1,e2];rfl
  ·have e1:n - j=n - (j+1)+1:=by exact nqA ‹_›
   simp only [hn,decide_false]
   rw [ih,e1,List.take_succ_cons]
   rfl
theorem zh7 {α:Type}(n:Nat)(xs:List α)(f:α × Nat->Option α)(hf:∀ p∈xs.zipIdx,f p=if decide (n<=p.2)=true then none else some p.1):xs.zipIdx.filterMap f=xs.take n:=by
 have e:∀ l:List (α × Nat),(∀ p∈l,f p=if decide (n<=p.2)=true then none else some p.1)->l.filterMap f=l.filterMap (λ p=>if decide (n<=p.2)=true then none else some p.1):=by
  intro l
  induction l with
  | nil=>intro _;rfl
  | cons p l ih=>intro h;rw [List.filterMap_cons,List.filterMap_cons,h p (.head _),ih λ q hq=>h q (.tail _ hq)]
 rw [e _ hf,zg4 n (λ j=>decide (n<=j)) xs 0 λ Y Y Y=>rfl]
 rfl
theorem zgd {A:Around}{E:Value->Shared->Prop}{b sl:Addr}{items:Array Value}{n k:Nat}{t:Tok}{Q:Unit->Shared->Prop}(hl:IsL s.heap b items n)(hs:s.heap.IsSliceOf sl (.int k t) .none .none)(hk:k<=items.size)(hz:items.size<=sizeLine)
  (hQ:∀ f:Array Value->Array Value,f items=(items.toList.take k).toArray->Q () { s with heap:=s.heap.update b (Obj.mapSeq f) }):wpAny (model X.prog X.w) A (delItem (.ref b) (.ref sl)) Q E s:=by
 have hT:s.TypeIs (.ref b) "list":=⟨_,hl,rfl⟩
 refine E13 (id hs) λ os hos hcs hds=>?_
 have hTs:s.TypeIs (.ref sl) "slice":=⟨os,hos,hcs⟩
 refine wpAny_delItem_slot hT (by decide) F.slot_list_delitem ?_
 refine bq F.slot_list_delitem hT F.entry_list_delitem ?_ (F.args_list_delitem_2 _ _)
 show wpAny _ _ (Builtin.List.listSubscript? (.ref sl) >>= _) _ _ s
 refine ag ?_
 unfold Builtin.List.listSubscript?
 refine ag (wpAny_specialOf hTs slice_no_index ?_)
 refine wpAny_ite_true rfl ?_
 refine ai ?_
 show wpAny _ _ (typeOf (.ref sl) >>= _) _ _ s
 refine ag (wpAny_typeOf hTs ?_)
 refine bm rfl ?_
 rw [listSliceParts_eq]
 refine ag (ag (wpAny_field hos hds (x:=.none) rfl (ag (wpAny_listPart .none ?_))))
 refine bm rfl ?_
 refine ag (wpAny_field hos hds (x:=.int k t) rfl (ag (wpAny_listPart (.int k t) ?_)))
 refine ag (wpAny_field hos hds (x:=.none) rfl (ag (wpAny_listPart .none (ai ?_))))
 refine ag (m:=Builtin.List.listItems (.ref b)) ?_
 unfold Builtin.List.listItems
 refine ag (wpAny_seqItems hl rfl (ai ?_))
 refine ag (wpAny_of_eq (sliceIndices_raw (some (k:Int)) none none items.size (by simp)) ?_)
 have hb:sliceBounds (some (k:Int)) none none items.size=((k:Int),(items.size:Int),1):=by
  unfold sliceBounds
  simp
  first | (rw [aw (Int.not_lt.mpr (Int.natCast_nonneg k)),Int.min_eq_left (Int.ofNat_le.mpr ‹_›),Int.max_eq_right (Int.natCast_nonneg k)];done) | lia
 rw [hb]
 refine ag (wpAny_rule ?_)
 have upd:∀ f:Array Value->Array Value,f items=(items.toList.take k).toArray->wpAny (model X.prog X.w) A.in1 (updateSeq b f) (λ Y s'=>Q () s') E s:=λ f hf=>by
  refine wpAny_updateSeq hl rfl (hQ f hf) hz ?_
  rw [hf,bO,be,aE]
  exact nqL (nT ‹_› (by decide))
 refine ag (am (upd _ (cw List.toArray (zh7 k items.toList _ λ p hp=>?_))) (λ Y s' hq=>?_) λ Y Y e=>e)
 ·obtain⟨x,j⟩:=p
  have hj:j < items.size:=by
   obtain⟨i,hi,e⟩:=bH hp
   rw [List.getElem_zipIdx]at e
   cases e
   simpa using hi
  show (if (if (1:Int) > 0 then (decide ((k:Int)<=(j:Int)) && decide ((j:Int) < (items.size:Int)) && (((j:Int) - k) % 1 == 0))else _)=true then none else some x)=_
  have e0:((1:Int) > 0)=True:=by simp
  simp only [e0,if_true]
  have e1:decide ((j:Int) < (items.size:Int))=true:=by simp;assumption
  have e2:(((j:Int) - k) % 1 == 0)=true:=by simp [Int.emod_one]
  rw [e1,e2,Bool.and_true,Bool.and_true]
  simp
 ·refine ag (wpAny_letGo (ai ⟨.none,rfl,hq⟩))
theorem XS.delEnd {o lo:Expr}{p1 p2 pos:Pos}{Q:Fl->Loc->Mem->Prop}(h:W X l R env ρ μ o λ x dp=>W X l R env ρ dp lo λ y dt=>∃ k xs n,x = .ref k/\y = .int (n:Nat)/\dt k=some (.list xs)/\n<=xs.length/\xs.length<=sizeLine/\Q .next ρ (dt.set k (.list (xs.take n)))) :
  XS X l R env ρ μ (.Delete [.Subscript o (.Slice (some lo) none none p1) p2] pos) Q:=by
 intro g A s a r
 refine wpAny_Delete (wpAny_deleteEach_cons ?_)
 rw [arm_delete_Subscript]
 refine ag (am (h g A s a r) (λ v dr hh=>?_) λ Y Y e=>e)
 obtain⟨du,dp,dy,dz,x,vx,dw⟩:=hh
 refine ag (aP ?_)
 refine wpAny_Slice ?_
 refine am (dw du A dr a dz) (λ u dq hh=>?_) λ Y Y e=>e
 obtain⟨dC,dt,dB,dv,y,vy,q8⟩:=hh;refine E36 q8 λ k xs n hx hy hk hn hz q=>?_;clear q8
 subst hx hy
 obtain⟨t,rfl⟩:=vy
 refine am (ai (Q:=λ v s'=>dq=s'/\v = .none) ⟨rfl,rfl⟩) (λ v s' hh=>?_) λ Y Y e=>e
 obtain⟨e2,e1⟩:=hh
 subst e1
 subst e2
 refine ai ?_
 refine E34 (dv.mlist hk (vx.mono dB)) λ b m items q9 hg hl hvs=>?_;subst q9
 have hlen:=hvs.length
 simp only [aE]at hlen
 have dS:=dv.push { cls:=.type "slice",data:=.fields #[.int (n:Nat) t,.none,.none] }
 have hl':IsL (dq.heap.push { cls:=.type "slice",data:=.fields #[.int (n:Nat) t,.none,.none] }) b items m:=IsL.push hl _
 refine ag (cJ (ag (aP (zgd (k:=n) hl' (Heap.IsSliceOf.new ..) (by simp_all) (by simp_all) λ f hf=>?_))))
 refine wpAny_release (wpAny_deleteEach_nil ?_)
 exact⟨dC,ρ,_,.next,dy.trans dB,dS.setList (t:=dq.toks) hg hl' f hf (by simpa using hvs.take n),rfl,q⟩
end
abbrev cQ:=@CV.append
end Internal
open PySem PySem.W PyProof.Rows PySem.Calls PySem.SeqAt
namespace Internal
inductive EqV (μ:Mem):Nat->List V->List V->Bool->Bool->Prop
 | int {n:Nat} (a b:Int):EqV μ n [.int a] [.int b] true (a == b)
 | str {n:Nat} (a b:Str):EqV μ n [.str a] [.str b] true (a == b)
 | bool {n:Nat} (a b:Bool):EqV μ n [.bool a] [.bool b] true (a == b)
 | tup {n:Nat} {xs ys:List V} {b:Bool}:EqV μ n xs ys false b->EqV μ (n+1) [.tup xs] [.tup ys] true (b && xs.length == ys.length)
 | list {n:Nat} {x y:V} {xs ys:List V} {b:Bool}:RdL μ x xs->RdL μ y ys->xs.length=ys.length->EqV μ n xs ys false b->EqV μ (n+1) [x] [y] true b
 | lens {n:Nat} {x y:V} {xs ys:List V}:RdL μ x xs->RdL μ y ys->xs.length≠ys.length->EqV μ (n+1) [x] [y] true false
 | nilL {n:Nat} {ys:List V}:EqV μ n [] ys false true
 | nilR {n:Nat} {xs:List V}:EqV μ n xs [] false true
 | cons {n:Nat} {x y:V} {xs ys:List V} {b c:Bool}:EqV μ n [x] [y] true b->EqV μ n xs ys false c->EqV μ n (x :: xs) (y :: ys) false (b && c)
section
variable {X:Ctx}{l:Nat}{R:Nat->Option Obj}{env:Env}{ρ:Loc}{g g':Gh}{μ dl:Mem}{s s':Shared}
theorem RdL.fun_ {x:V}{xs ys:List V}(h:RdL μ x xs)(h':RdL μ x ys):xs=ys:=by
 cases h with
 | lst=>cases h';rfl
 | ref hk=>cases h' with | ref hk'=>rw [hk]at hk';cases hk';rfl
theorem EqV.refl_ {n:Nat}{xs ys:List V}{k b:Bool}(h:EqV μ n xs ys k b):xs=ys->b=true:=by
 induction h with
 | int a c=>intro e;cases e;simp
 | str a c=>intro e;cases e;simp
 | bool a c=>intro e;cases e;simp
 | tup h ih=>intro e;cases e;rw [ih rfl];simp
 | list h1 h2 h3 h4 ih=>intro e;cases e;exact ih (h1.fun_ h2)
 | lens h1 h2 h3=>intro e;cases e;rw [h1.fun_ h2]at h3;exact absurd rfl h3
 | nilL=>intro _;rfl
 | nilR=>intro _;rfl
 | cons h1 h2 ih1 ih2=>intro e;cases e;rw [ih1 rfl,ih2 rfl];rfl
noncomputable def V.plain:V->Prop
 | .lit _=>False
 | .rng ..=>False
 | .set ..=>False
 | _=>True
theorem RdL.plain {x:V}{xs:List V}(h:RdL μ x xs):x.plain:=by cases h <;> trivial
noncomputable def Gh.inv (g:Gh):Value->V
 | .none=>.none
 | .bool b=>.bool b
 | .int i _=>.int i
 | .str x _=>.str x
 | .ref a=>(g.im a).getD (.ref (@Classical.epsilon Id ⟨.h 0⟩ λ k=>∃ d,g.mu k=some (a,d)))
 | v=>.lit v
theorem Rep.inv (r:Rep X R env ρ g μ s){x:V}{v:Value}(hx:x.plain)(h:VR g x v):x=g.inv v:=by
 cases x with
 | none=>cases h;rfl
 | bool b=>cases h;rfl
 | int i=>obtain⟨t,rfl⟩:=h;rfl
 | str i=>obtain⟨t,rfl⟩:=h;rfl
 | tup l=>obtain⟨a,rfl,h⟩:=h;show _=(g.im a).getD _;rw [h];rfl
 | lst l=>obtain⟨a,rfl,h⟩:=h;show _=(g.im a).getD _;rw [h];rfl
 | ref k =>
  obtain⟨a,d,rfl,h⟩:=h
  show _=(g.im a).getD _
  rw [(r.off k a d h).1]
  obtain⟨d',h'⟩:=@Classical.epsilon_spec Id (λ k=>∃ d,g.mu k=some (a,d)) ⟨k,d,h⟩
  exact cw V.ref (ci λ ne=>(r.sep _ _ _ _ _ _ h h' ne).1 rfl)
 | _=>exact hx.elim
theorem Rep.inj (r:Rep X R env ρ g μ s){x y:V}{v:Value}(hx:x.plain)(hy:y.plain)(h1:VR g x v)(h2:VR g y v):x=y:=(r.inv hx h1).trans (r.inv hy h2).symm
theorem zdZ (e:Nat->Bool)(m:Nat):(List.range (m+1)).all e=(e 0 && (List.range m).all λ i=>e (i+1)):=by
 rw [List.range_succ_eq_map,List.all_cons,List.all_map];rfl
theorem zf4 {A:Around}{n:Nat}(h:A.units+(n+1) < cLine):A.in1.units+n < cLine:=by show A.units+1+n < cLine;exact nrp ‹_›
structure Says (A:Around)(s:Shared)(v u:Value)(b:Bool):Prop where
 q:RcAt A s v u b
 n:RcNeAt A s v u (!b)
 e:EqAt A s v u b
noncomputable def EqSay (X:Ctx)(R:Nat->Option Obj)(env:Env)(ρ:Loc)(g:Gh)(s:Shared)(n:Nat)(xs ys:List V)(k b:Bool):Prop :=
 (k=true->∀ x y v u (A:Around),xs=[x]->ys=[y]->VR g x v->VR g y u->A.units+n < cLine->Says A s v u b) /\
 (k=false->∀ (vs us:List Value) (A:Around),VRs g xs vs->VRs g ys us->A.units+n < cLine->∃ e:Nat->Bool,(∀ j (h1:j < vs.length) (h2:j < us.length),EqAt A s vs[j] us[j] (e j))/\(List.range (min vs.length us.length)).all e=b)
theorem EqSay.one {n:Nat}{x y:V}{b:Bool}(h:∀ v u (A:Around),VR g x v->VR g y u->A.units+n < cLine->Says A s v u b):EqSay X R env ρ g s n [x] [y] true b :=
 ⟨λ Y Y Y v u A e1 e2 h1 h2 hu=>by cases e1;cases e2;exact h v u A h1 h2 hu,λ e=>dead e⟩
theorem EqV.say (r:Rep X R env ρ g μ s){n:Nat}{xs ys:List V}{k b:Bool}(h:EqV μ n xs ys k b):EqSay X R env ρ g s n xs ys k b:=by
 induction h with
 | int a c=>exact .one λ v u A h1 h2 hu=>by obtain⟨t,rfl⟩:=h1;obtain⟨t',rfl⟩:=h2;exact⟨.int_int _ _ _ _,.int_int _ _ _ _,.int_int _ _ _ _⟩
 | str a c=>exact .one λ v u A h1 h2 hu=>by obtain⟨t,rfl⟩:=h1;obtain⟨t',rfl⟩:=h2;exact⟨.str_str _ _ _ _,.str_str _ _ _ _,.str_str _ _ _ _⟩
 | bool a c=>exact .one λ v u A h1 h2 hu=>by cases h1;cases h2;exact⟨.bool_bool _ _,.bool_bool _ _,.bool_bool _ _⟩
 | @tup n xs ys b h ih =>
  refine .one λ v u A h1 h2 hu=>?_
  have hself:v=u->(b && xs.length == ys.length)=true:=λ e=>by
   have:=r.inj (x:=.tup xs) (y:=.tup ys) trivial trivial h1 (e▸h2)
   cases this
   rw [h.refl_ rfl];simp
  refine E23 (r.tup h1) λ a items q9 hl hv=>?_;subst q9
  refine E23 (r.tup h2) λ c items2 q9 hl2 hv2=>?_;subst q9
  refine E12 (ih.2 rfl _ _ A.in1 hv hv2 (zf4 hu)) λ e he hb=>?_
  have hl':s.heap.IsTuple a items:=hl
  have hl2':s.heap.IsTuple c items2:=hl2
  have e1:=hv.length
  have e2:=hv2.length
  simp only [aE]at e1 e2 hb
  have hb':((List.range (min items.size items2.size)).all e && items.size == items2.size)=(b && xs.length == ys.length):=by rw [hb,e1,e2]
  have he':∀ j (h1:j < items.size) (h2:j < items2.size),EqAt A.in1 s items[j] items2[j] (e j):=λ j h1 h2=>by have:=he j (by simpa using h1) (by simpa using h2);rwa [Array.getElem_toList,Array.getElem_toList]at this
  have q1:=RcAt.tuples hl' hl2' (by exact nrq ‹_›) he'
  have q2:=RcNeAt.tuples hl' hl2' (by exact nrq ‹_›) he'
  rw [hb']at q1 q2
  refine⟨q1,q2,?_⟩
  by_cases hac:a=c
  ·subst hac
   rw [hself rfl];exact .same _
  ·exact .of_refs hac q1
 | @list n x y xs ys b h1 h2 h3 h4 ih =>
  refine .one λ v u A v1 v2 hu=>?_
  have hself:v=u->b=true:=λ e=>by
   have:=r.inj h1.plain h2.plain v1 (e▸v2)
   subst this
   exact h4.refl_ (h1.fun_ h2)
  refine E23 (r.list h1 v1) λ a items q9 hl hv=>?_;subst q9
  refine E23 (r.list h2 v2) λ c items2 q9 hl2 hv2=>?_;subst q9
  refine E12 (ih.2 rfl _ _ A.in1 hv hv2 (zf4 hu)) λ e he hb=>?_
  have e1:=hv.length
  have e2:=hv2.length
  simp only [aE]at e1 e2 hb
  have hsz:items.size=items2.size:=by simp_all
  have he':∀ j (h1:j < items.size) (h2:j < items2.size),EqAt A.in1 s items[j] items2[j] (e j):=λ j h1 h2=>by have:=he j (by simpa using h1) (by simpa using h2);rwa [Array.getElem_toList,Array.getElem_toList]at this
  have q1:=RcAt.lists hl.isList hl2.isList hsz (by exact nrq ‹_›) he'
  have q2:=RcNeAt.lists hl.isList hl2.isList hsz (by exact nrq ‹_›) he'
  have hb':(List.range items.size).all e=b:=by rw [<- hb,hsz,Nat.min_self]
  rw [hb']at q1 q2
  refine⟨q1,q2,?_⟩
  by_cases hac:a=c
  ·subst hac
   rw [hself rfl];exact .same _
  ·exact .of_refs hac q1
 | @lens n x y xs ys h1 h2 h3 =>
  refine .one λ v u A v1 v2 hu=>?_
  have hself:v=u->False:=λ e=>by
   have:=r.inj h1.plain h2.plain v1 (e▸v2)
   subst this
   exact h3 (by rw [h1.fun_ h2])
  refine E23 (r.list h1 v1) λ a items q9 hl hv=>?_;subst q9
  refine E23 (r.list h2 v2) λ c items2 q9 hl2 hv2=>?_;subst q9
  have e1:=hv.length
  have e2:=hv2.length
  simp only [aE]at e1 e2
  have hsz:(items.size != items2.size)=true:=by simp;simp_all
  have q1:=RcAt.lists_lengths hl.isList hl2.isList hsz (A:=A) (by exact nrq ‹_›)
  exact⟨q1,RcNeAt.lists_lengths hl.isList hl2.isList hsz (by exact nrq ‹_›),.of_refs (λ e=>hself (by rw [e])) q1⟩
 | nilL=>exact⟨λ e=>dead e,λ Y vs us A h1 h2 Y=>⟨λ Y=>true,λ j hj=>(by cases h1;cases hj),(by cases h1;simp)⟩⟩
 | nilR=>exact⟨λ e=>dead e,λ Y vs us A h1 h2 Y=>⟨λ Y=>true,λ j Y hj=>(by cases h2;cases hj),(by cases h2;simp)⟩⟩
 | @cons n x y xs ys b c h1 h2 ih1 ih2 =>
  refine⟨λ e=>dead e,λ Y vs us A v1 v2 hu=>?_⟩
  cases v1 with
  | cons a v1=>cases v2 with
   | cons d v2 =>
    refine E12 (ih2.2 rfl _ _ A v1 v2 hu) λ e he hb=>?_
    have q:=(ih1.1 rfl _ _ _ _ A rfl rfl a d hu).e
    refine⟨λ j=>match j with | 0=>b | j+1=>e j,λ j hj1 hj2=>?_,?_⟩
    ·cases j with
     | zero=>exact q
     | succ j=>simpa using he j (by simpa using hj1) (by simpa using hj2)
    ·rw [bx,bx,Nat.succ_min_succ,zdZ]
     dsimp only
     rw [hb]
theorem AOk.eq {A:Around}(a:AOk X A (l+1)){n:Nat}(hn:n<=15):A.units+n < cLine:=by have:=a.units;exact nro (nT ‹_› (by decide)) ‹_›
theorem P2.eq {x y:V}{n:Nat}{b:Bool}{Q:V->Mem->Prop}(h:EqV μ n [x] [y] true b)(hn:n<=15)(q:Q (.bool b) μ):P2 X (l+1) R env ρ μ (compareOp .Eq) x y Q:=λ g v u h1 h2 A s a r =>
 (((h.say r).1 rfl _ _ _ _ A rfl rfl h1 h2 (a.eq hn)).q) X.prog X.w _ _ ⟨g,μ,.rfl,r,.bool b,rfl,q⟩
theorem P2.ne {x y:V}{n:Nat}{b:Bool}{Q:V->Mem->Prop}(h:EqV μ n [x] [y] true b)(hn:n<=15)(q:Q (.bool !b) μ):P2 X (l+1) R env ρ μ (compareOp .NotEq) x y Q:=λ g v u h1 h2 A s a r =>
 (((h.say r).1 rfl _ _ _ _ A rfl rfl h1 h2 (a.eq hn)).n) X.prog X.w _ _ ⟨g,μ,.rfl,r,.bool !b,rfl,q⟩
theorem P2.isNone {x:V}{Q:V->Mem->Prop}(hp:x.plain)(q:∀ b,(b=true↔x = .none)->Q (.bool b) μ):P2 X l R env ρ μ (compareOp .Is) x .none Q:=λ g v u h1 h2 A s a r=>by
 cases h2
 by_cases hx:x = .none
 ·subst hx;cases h1
  exact wpAny_is_self rfl ⟨g,μ,.rfl,r,.bool true,rfl,q _ (by simp)⟩
 ·have hv:v ≠ .none:=by
   rintro rfl
   exact hx (r.inj hp trivial h1 (show VR g .none .none from rfl))
  exact is_none_ne hv ⟨g,μ,.rfl,r,.bool false,rfl,q _ (by simp [hx])⟩
end
section
variable {X:Ctx}{l:Nat}{R:Nat->Option Obj}{env:Env}{ρ:Loc}{g g':Gh}{μ dl:Mem}{s s':Shared}
theorem P2.addI {a b:Int}{Q:V->Mem->Prop}(q:Q (.int (a+b)) μ):P2 X l R env ρ μ (binaryOp .Add) (.int a) (.int b) Q:=by
 rintro g v u ⟨t,rfl⟩ ⟨t',rfl⟩ A s ao r;exact P.add_int ⟨g,μ,.rfl,zag r _,.int _,⟨_,rfl⟩,q⟩
theorem P2.subI {a b:Int}{Q:V->Mem->Prop}(q:Q (.int (a - b)) μ):P2 X l R env ρ μ (binaryOp .Sub) (.int a) (.int b) Q:=by
 rintro g v u ⟨t,rfl⟩ ⟨t',rfl⟩ A s ao r;exact sub_int ⟨g,μ,.rfl,zag r _,.int _,⟨_,rfl⟩,q⟩
theorem P2.mulI {a b:Int}{Q:V->Mem->Prop}(h:IntMulOk a b)(q:Q (.int (a * b)) μ):P2 X l R env ρ μ (binaryOp .Mult) (.int a) (.int b) Q:=by
 rintro g v u ⟨t,rfl⟩ ⟨t',rfl⟩ A s ao r;exact mul_int ⟨g,μ,.rfl,zag r _,.int _,⟨_,rfl⟩,q⟩ h
theorem P2.modI {a b:Int}{Q:V->Mem->Prop}(h:b≠0)(q:Q (.int (a.fmod b)) μ):P2 X l R env ρ μ (binaryOp .Mod) (.int a) (.int b) Q:=by
 rintro g v u ⟨t,rfl⟩ ⟨t',rfl⟩ A s ao r;exact mod_int' h ⟨g,μ,.rfl,zag r _,.int _,⟨_,rfl⟩,q⟩
theorem P2.ltI {a b:Int}{Q:V->Mem->Prop}(q:Q (.bool (decide (a < b))) μ):P2 X l R env ρ μ (compareOp .Lt) (.int a) (.int b) Q:=by
 rintro g v u ⟨t,rfl⟩ ⟨t',rfl⟩ A s ao r;exact lt_int ⟨g,μ,.rfl,r,.bool _,rfl,q⟩
theorem P2.gtI {a b:Int}{Q:V->Mem->Prop}(q:Q (.bool (decide (b < a))) μ):P2 X l R env ρ μ (compareOp .Gt) (.int a) (.int b) Q:=by
 rintro g v u ⟨t,rfl⟩ ⟨t',rfl⟩ A s ao r;exact gt_int ⟨g,μ,.rfl,r,.bool _,rfl,q⟩
theorem P2.leI {a b:Int}{Q:V->Mem->Prop}(q:Q (.bool (decide (a<=b))) μ):P2 X l R env ρ μ (compareOp .LtE) (.int a) (.int b) Q:=by
 rintro g v u ⟨t,rfl⟩ ⟨t',rfl⟩ A s ao r;exact le_int ⟨g,μ,.rfl,r,.bool _,rfl,q⟩
theorem P2.eqI {a b:Int}{Q:V->Mem->Prop}(q:Q (.bool (a == b)) μ):P2 X l R env ρ μ (compareOp .Eq) (.int a) (.int b) Q:=by
 rintro g v u ⟨t,rfl⟩ ⟨t',rfl⟩ A s ao r;exact eq_int ⟨g,μ,.rfl,r,.bool _,rfl,q⟩
theorem P2.neI {a b:Int}{Q:V->Mem->Prop}(q:Q (.bool (a != b)) μ):P2 X l R env ρ μ (compareOp .NotEq) (.int a) (.int b) Q:=by
 rintro g v u ⟨t,rfl⟩ ⟨t',rfl⟩ A s ao r;exact ne_int ⟨g,μ,.rfl,r,.bool _,rfl,q⟩
theorem cv1 {x:V}{f:Value}{Q:V->Mem->Prop}(h:∀ g v,VR g x v->Tr X l R env ρ g μ (call f [v]) (VPst Q)):CV X l R env ρ μ f [x] Q:=λ g vs hv=>by
 refine E12 (vr1 hv) λ v q9 h1=>?_;subst q9;exact h g v h1
theorem cv2 {x y:V}{f:Value}{Q:V->Mem->Prop}(h:∀ g v u,VR g x v->VR g y u->Tr X l R env ρ g μ (call f [v,u]) (VPst Q)):CV X l R env ρ μ f [x,y] Q:=λ g vs hv=>by
 refine E23 (vr2 hv) λ v u q9 h1 h2=>?_;subst q9;exact h g v u h1 h2
theorem CV.abs {a:Int}{Q:V->Mem->Prop}(q:Q (.int (if a < 0 then -a else a)) μ):CV X l R env ρ μ (.builtin "abs") [.int a] Q:=cv1 λ g v ⟨t,e⟩ A s ao r=>by
 subst e;exact call_abs_int λ u tk=>⟨g,μ,.rfl,zag r _,.int _,⟨_,rfl⟩,q⟩
theorem CV.max2 {a b:Int}{Q:V->Mem->Prop}(q:Q (.int (if b > a then b else a)) μ):CV X l R env ρ μ (.builtin "max") [.int a,.int b] Q:=cv2 λ g v u ⟨t,e⟩ ⟨t',e'⟩ A s ao r=>by
 subst e e'
 obtain⟨m,F⟩:=r.fr_
 exact max_two_N ao.handled F (zam (skip:=λ Y=>false)) λ h' tk F' N'=>⟨g,μ,.rfl,r.fromNews (pre:=[]) F F' N',.int _,⟨_,rfl⟩,q⟩
theorem CV.min2 {a b:Int}{Q:V->Mem->Prop}(q:Q (.int (if b < a then b else a)) μ):CV X l R env ρ μ (.builtin "min") [.int a,.int b] Q:=cv2 λ g v u ⟨t,e⟩ ⟨t',e'⟩ A s ao r=>by
 subst e e'
 obtain⟨m,F⟩:=r.fr_
 exact min_two_N ao.handled F (zam (skip:=λ Y=>false)) λ h' tk F' N'=>⟨g,μ,.rfl,r.fromNews (pre:=[]) F F' N',.int _,⟨_,rfl⟩,q⟩
theorem CV.lenL {x:V}{xs:List V}{Q:V->Mem->Prop}(hx:RdL μ x xs)(hz:xs.length<=sizeLine)(q:Q (.int xs.length) μ):CV X l R env ρ μ (.builtin "len") [x] Q:=cv1 λ g v vr A s ao r=>by
 refine E23 (r.list hx vr) λ b items q9 hl hv=>?_;subst q9
 have e:=hv.length
 simp only [aE]at e
 have hsl:sizeLine < 2 ^ 63:=by decide
 refine call_len_list hl.isList (by lia) ?_
 exact⟨g,μ,.rfl,zag r _,.int _,⟨_,rfl⟩,by rw [<- e];exact q⟩
theorem zaG {α β:Type}{f:α->β}{xs:List α}:xs.take (xs.map f).length=xs:=by rw [ah,aV]
theorem CV.lenM {α:Type}{x:V}{f:α->V}{xs:List α}{Q:V->Mem->Prop}(hx:RdL μ x (xs.map f))(hz:xs.length<=sizeLine)(q:Q (.int xs.length) μ):CV X l R env ρ μ (.builtin "len") [x] Q :=
 CV.lenL hx (by rw [ah];exact hz) (by rw [ah];exact q)
theorem CV.lenT {xs:List V}{Q:V->Mem->Prop}(hz:xs.length<=sizeLine)(q:Q (.int xs.length) μ):CV X l R env ρ μ (.builtin "len") [.tup xs] Q:=cv1 λ g v vr A s ao r=>by
 refine E23 (r.tup vr) λ b items q9 hl hv=>?_;subst q9
 have e:=hv.length
 simp only [aE]at e
 have hsl:sizeLine < 2 ^ 63:=by decide
 refine len_tuple hl (by lia) ?_
 exact⟨g,μ,.rfl,zag r _,.int _,⟨_,rfl⟩,by rw [<- e];exact q⟩
theorem VRs.ints:∀ {ns:List Int}{vs:List Value},VRs g (ns.map .int) vs->IntsAre vs ns
 | [],_,h=>by cases h;exact .nil
 | n :: ns,_,h=>by
  refine E23 (VRs.inv h) λ _ _ q9 a h2=>?_;subst q9
  ·obtain⟨t,rfl⟩:=a;exact .cons _ _ (VRs.ints h2)
theorem VRs.of_ints {ns:List Int}{vs:List Value}(h:IntsAre vs ns):VRs g (ns.map .int) vs:=by
 induction h with
 | nil=>exact .nil
 | cons n t h ih=>exact .cons ⟨t,rfl⟩ ih
theorem zht {ns:List Int}{vs:List Value}(h:IntsAre vs ns):∃ xs:List (Int × Tok),vs=xs.map (λ p=>Value.int p.1 p.2)/\xs.map (·.1)=ns:=by
 induction h with
 | nil=>exact⟨[],rfl,rfl⟩
 | cons n t h ih=>refine E12 ih λ xs h1 h2=>?_;exact⟨(n,t) :: xs,by rw [h1];rfl,by rw [aH,h2]⟩
theorem CV.sumL {x:V}{ns:List Int}{Q:V->Mem->Prop}(hx:RdL μ x (ns.map .int))(q:Q (.int ns.sum) μ):CV X l R env ρ μ (.builtin "sum") [x] Q:=cv1 λ g v vr A s ao r=>by
 refine E23 (r.list hx vr) λ b items q9 hl hv=>?_;subst q9
 refine E12 (zht hv.ints) λ xs h1 h2=>?_
 have hi:items=intItems xs.toArray:=by
  apply Array.toList_inj.mp
  rw [h1];simp [intItems]
 refine sum_intListG (xs:=xs.toArray) ao.handled (hi▸hl.isList) λ h' tk t' k=>?_
 refine⟨g,μ,.rfl,r.keepAll k rfl rfl rfl,.int _,⟨_,rfl⟩,?_⟩
 rw [preSum_eq,List.take_of_length_le (by simp),h2];exact q
theorem CV.maxL {x:V}{ns:List Int}{Q:V->Mem->Prop}(hx:RdL μ x (ns.map .int))(hn:0 < ns.length)(q:∀ M,M∈ns->(∀ a∈ns,a<=M)->Q (.int M) μ):CV X l R env ρ μ (.builtin "max") [x] Q:=cv1 λ g v vr A s ao r=>by
 refine E23 (r.list hx vr) λ b items q9 hl hv=>?_;subst q9
 obtain⟨m,F⟩:=r.fr_
 have hl':s.heap.IsList b items.toList.toArray:=by simpa using hl.isList
 exact max_list_N ao.handled F (zam (skip:=λ Y=>false)) hl' hv.ints hn λ h' M t tk F' N' h1 h2=>⟨g,μ,.rfl,r.fromNews (pre:=[]) F F' N',.int _,⟨_,rfl⟩,q M h1 h2⟩
theorem CV.sortedL {x:V}{ns:List Int}{Q:V->Mem->Prop}(hx:RdL μ x (ns.map .int))(hn:ns.length < 64)(q:∀ ns':List Int,ns'.Perm ns->ns'.Pairwise (· <= ·)->NewList μ (ns'.map .int) Q):CV X l R env ρ μ (.builtin "sorted") [x] Q:=cv1 λ g v vr A s ao r=>by
 refine E23 (r.list hx vr) λ b items q9 hl hv=>?_;subst q9
 obtain⟨m,F⟩:=r.fr_
 have hl':s.heap.IsList b items.toList.toArray:=by simpa using hl.isList
 refine kso_sorted F (zam (skip:=λ Y=>false)) hl' hv.ints hn λ D vs' ns' c h' F' N' hlt hi Y hp hs Y=>?_
 obtain⟨h1,h2,h3⟩:=N' _ (.head _)
 have r1:Rep X R env ρ g μ { s with heap:=h' }:=r.fromNews (pre:=[_]) F F' N'
 have fD:Fre R env g D:=by
  refine .gone r ?_ h2
  induction e:s.heap.get? D with
  | none=>rfl
  | some o=>exact absurd (hlt _ (zaR.mpr ⟨h2,rfl,h3,e⟩)) (bj D)
 exact r1.adoptLst (items:=vs'.toArray) fD ⟨c,h1⟩ (by simpa using VRs.of_ints hi) (q ns' hp hs)
theorem CV.listL {x:V}{xs:List V}{Q:V->Mem->Prop}(hx:RdL μ x xs)(hz:xs.length<=sizeLine)(q:NewList μ xs Q):CV X l R env ρ μ (.type "list") [x] Q:=cv1 λ g v vr A s ao r=>by
 obtain⟨b,items,rfl,⟨n,hl⟩,hv⟩:=r.list hx vr
 have e:=hv.length
 simp only [aE]at e
 refine call_list_seq b (.inl rfl) hl rfl rfl (λ h' c' k hc=>?_) (by simp_all)
 exact r.newLst hv q (s':={ s with heap:=h' }) (an _) k ⟨c',by rw [hc]⟩ rfl rfl rfl
theorem CV.tupleL {x:V}{xs:List V}{Q:V->Mem->Prop}(hx:RdL μ x xs)(hz:xs.length<=sizeLine)(q:Q (.tup xs) μ):CV X l R env ρ μ (.type "tuple") [x] Q:=cv1 λ g v vr A s ao r=>by
 refine E23 (r.list hx vr) λ b items q9 hl hv=>?_;subst q9
 have e:=hv.length
 simp only [aE]at e
 refine call_tuple_list hl.isList (λ h' k=>?_) (by simp_all)
 have r1:Rep X R env ρ g μ { s with heap:=h' }:=r.keepAll k rfl rfl rfl
 obtain⟨dB,dv,e8⟩:=r1.newTup (vs:=items.toList) hv (n:=none)
 simp only [Array.toArray_toList]at dv
 exact⟨_,_,dB,dv,_,e8,q⟩
theorem CV.tupleT {xs:List V}{Q:V->Mem->Prop}(q:Q (.tup xs) μ):CV X l R env ρ μ (.type "tuple") [.tup xs] Q:=cv1 λ g v vr A s ao r=>by
 refine E23 (r.tup vr) λ b items q9 hl hv=>?_;subst q9
 exact call_tuple_tup hl ⟨g,μ,.rfl,r,_,vr,q⟩
theorem zkj:∀ {xs:List V}{vs:List Value},xs.length=vs.length->(∀ (i:Nat) (x:V) (v:Value),xs[i]? = some x->vs[i]? = some v->VR g x v)->VRs g xs vs:=by
 intro xs
 induction xs with
 | nil=>intro vs h _;rw [List.eq_nil_of_length_eq_zero h.symm];exact .nil
 | cons x xs ih =>
  intro vs h k
  induction vs with
  | nil=>cases h
  | cons v vs=>exact .cons (k 0 x v rfl rfl) (ih (Nat.succ.inj h) λ i x v h1 h2=>k (i+1) x v h1 h2)
noncomputable def rngV (a b:Int):List V:=(List.range (b - a).toNat).map λ (i:Nat)=>V.int (a+i)
theorem zdP (a b:Int):(rngV a b).length=(b - a).toNat:=by simp [rngV]
theorem zcP {a b:Int}{i:Nat}:(rngV a b)[i]? = if i < (b - a).toNat then some (V.int (a+i))else none:=by
 unfold rngV
 rw [aD]
 by_cases h:i < (b - a).toNat
 ·rw [bC h,aB h];rfl
 ·rw [bT (by simp;simp_all),aw h];rfl
theorem CV.range1 {b:Int}{Q:V->Mem->Prop}(q:Q (.rng 0 b) μ):CV X l R env ρ μ (.type "range") [.int b] Q:=cv1 λ g v ⟨t,e⟩ A s ao r=>by
 subst e
 refine call_range_1 ?_
 obtain⟨le,r1⟩:=r.newIm (s':={ s with heap:=s.heap.push { cls:=.type "range",data:=.fields #[.int 0 s.toks,.int b t,.int 1 (s.toks+1)] },toks:=s.toks+1+1 }) (v:=.rng 0 b) (n:=s.heap.objs.size) (an _) (λ Y Y h=>ay _ h)
  ⟨_,_,_,aJ _ rfl⟩ rfl rfl rfl
 exact⟨_,_,le,r1,.rng 0 b,⟨_,rfl,by simp [Gh.newIm]⟩,q⟩
theorem Rep.rng (r:Rep X R env ρ g μ s){v:Value}{a b:Int}(vr:VR g (.rng a b) v):∃ (p:Nat) (t u w:Tok),v = .ref p/\IsRange s.heap p a b 1 t u w:=by
 obtain⟨p,rfl,h⟩:=vr;refine E31 (r.im _ _ h) λ t u w ho=>?_;exact⟨p,t,u,w,rfl,ho⟩
theorem CV.listR {a b:Int}{Q:V->Mem->Prop}(ha:-1000000<=a/\a<=1000000)(hb:-1000000<=b/\b<=1000000)(q:NewList μ (rngV a b) Q):CV X l R env ρ μ (.type "list") [.rng a b] Q:=cv1 λ g v vr A s ao r=>by
 refine E42 (r.rng vr) λ p t u w q9 ho=>?_;subst q9
 refine call_list_range ao.handled ho (small_one (by lia) (by lia) (by lia) (by lia)) (rangeSize_nat a b) (by lia) λ h' tk acc c k hc hi=>?_
 have hv:VRs g (rngV a b) acc.toList:=by
  obtain⟨h1,h2⟩:=hi
  refine zkj (by rw [zdP,aE,h1]) λ i x v hx hv=>?_
  rw [zcP]at hx
  split at hx
  ·cases hx
   obtain⟨t,rfl⟩:=h2 i v (by simpa using hv)
   exact⟨t,by simp⟩
  ·cases hx
 exact r.newLst hv q (s':={ s with heap:=h',toks:=tk }) (an _) k ⟨c,by rw [hc]⟩ rfl rfl rfl
end
abbrev cW:=@CV.lenL
abbrev dh:=@CV.range1
section
variable {X:Ctx}{l:Nat}{R:Nat->Option Obj}{env:Env}{ρ:Loc}{g g':Gh}{μ dl:Mem}{s s':Shared}
theorem zfP {A:Around}{E:Value->Shared->Prop}{it t:Nat}{items:Array Value}(hne:t≠it):∀ (n i:Nat) (s:Shared) (Q:List Value->Shared->Prop),s.heap.IsListIter it t i->s.heap.IsList t items->i+n<=items.size ->
  (∀ h',h'.IsListIter it t (i+n)->Heap.SameBut it s.heap h'->Q ((items.toList.drop i).take n) { s with heap:=h' })->wpAny (model X.prog X.w) A (draw (.ref it) n) Q E s
 | 0,i,s,Q,hit,_,_,hQ=>by
  show wpAny _ _ (pure []) Q E s
  exact ai (by simpa using hQ s.heap hit (Heap.SameBut.refl ..))
 | n+1,i,s,Q,hit,ht,hle,hQ=>by
  have hlt:i < items.size:=by exact nrq ‹_›
  show wpAny _ _ (pyNext (.ref it) >>= _) Q E s
  refine ag (wpAny_pyNext_list_item hit ht (x:=items[i]) (by simp [hlt]) λ dw eT eF=>?_)
  refine ag (aP (zfP hne n (i+1) _ _ eT (ht.extBut eF.extBut hne) (by exact nsi ‹_›) λ dJ fz eU=>ai ?_))
  have hd:items.toList.drop i=items[i] :: items.toList.drop (i+1):=by simp [List.drop_eq_getElem_cons,hlt]
  have:=hQ dJ (by rw [show i+(n+1)=i+1+n by lia];exact fz) (eF.trans eU)
  rw [hd,List.take_succ_cons]at this
  exact this
theorem zds {A:Around}{E:Value->Shared->Prop}{t:Nat}{items:Array Value}{Q:List Value->Shared->Prop}(hh:A.handled=none)(ht:s.heap.IsList t items)
  (hQ:∀ h',Heap.ExtBut s.heap.objs.size s.heap h'->Q items.toList { s with heap:=h' }):wpAny (model X.prog X.w) A (unpackItems (.ref t) items.size none) Q E s:=by
 have hlt:t≠s.heap.objs.size:=by refine E12 (ht) λ o ho _=>?_;exact aF (aO ho)
 unfold unpackItems
 refine ag ?_
 unfold notIterableAtAll
 refine ag (wpAny_specialOf ht.typeIs F.slot_list_iter.lookup ?_)
 refine ai ?_
 simp only [bQ,if_false]
 refine ag (aP (wpAny_pyIter_list ht ?_))
 refine ag (aP (zfP hlt items.size 0 _ _ ⟨_,aJ _ rfl,rfl,rfl⟩ (ht.push _) (by simp_all) λ dw eT eF=>?_))
 have hall:List.take items.size (List.drop 0 items.toList)=items.toList:=by
  rw [List.drop_zero];exact List.take_of_length_le (by simp)
 rw [hall]
 refine bm (bK ((by simp))) ?_
 have fA:dw.IsList t items:=(ht.push _).extBut eF.extBut hlt
 refine ag (aP (wpAny_pyNext_list_end hh eT fA (by simp) λ dJ fB=>?_))
 simp only [Option.isSome_none,bQ,if_false]
 refine ai (hQ dJ λ b o hb e=>fB b o hb (eF.extBut b o hb (ay _ e)))
noncomputable def UN (X:Ctx)(l:Nat)(R:Nat->Option Obj)(env:Env)(ρ:Loc)(μ:Mem)(x:V)(n:Nat)(Q:List V->Mem->Prop):Prop :=
 ∀ g v,VR g x v->Tr X l R env ρ g μ (unpackItems v n none) (VsPst Q)
theorem Rep.extBut (r:Rep X R env ρ g μ s){h':Heap}(k:Heap.ExtBut s.heap.objs.size s.heap h'):Rep X R env ρ g μ { s with heap:=h' } :=
 r.keepAll (λ a o h=>k a o (aF (aO h)) h) rfl rfl rfl
theorem UN.tup {xs:List V}{n:Nat}{Q:List V->Mem->Prop}(hn:xs.length=n)(q:Q xs μ):UN X l R env ρ μ (.tup xs) n Q:=λ g v vr A s a r=>by
 refine E23 (r.tup vr) λ b items q9 hl hv=>?_;subst q9
 have e:=hv.length
 simp only [aE]at e
 obtain rfl:n=items.size:=by exact Eq.trans (bo ‹_›) ‹_›
 exact unpackItems_tuple a.handled hl λ h' k=>⟨g,μ,.rfl,r.extBut k,xs,hv,q⟩
theorem UN.list {x:V}{xs:List V}{n:Nat}{Q:List V->Mem->Prop}(hx:RdL μ x xs)(hn:xs.length=n)(q:Q xs μ):UN X l R env ρ μ x n Q:=λ g v vr A s a r=>by
 refine E23 (r.list hx vr) λ b items q9 hl hv=>?_;subst q9
 have e:=hv.length
 simp only [aE]at e
 obtain rfl:n=items.size:=by exact Eq.trans (bo ‹_›) ‹_›
 exact zds a.handled hl.isList λ h' k=>⟨g,μ,.rfl,r.extBut k,xs,hv,q⟩
noncomputable def ATs (X:Ctx)(l:Nat)(R:Nat->Option Obj)(env:Env)(ρ:Loc)(μ:Mem)(ts:List (Value->Sem Unit))(xs:List V)(Q:Loc->Mem->Prop):Prop :=
 ∀ g vs A s,VRs g xs vs->AOk X A l->Rep X R env ρ g μ s->wpAny (model X.prog X.w) A (assignInOrder ts vs) (λ Y s'=>APst X R env g Q s') (λ Y Y=>False) s
theorem ATs.nil {xs:List V}{Q:Loc->Mem->Prop}(q:Q ρ μ):ATs X l R env ρ μ [] xs Q:=λ g vs A s hv a r=>by
 cases hv <;> exact ai ⟨g,ρ,μ,.rfl,r,q⟩
theorem ATs.cons {t:Expr}{ts:List (Value->Sem Unit)}{x:V}{xs:List V}{Q:Loc->Mem->Prop}(h:AT X l R env ρ μ t x λ dN dp=>ATs X l R env dN dp ts xs Q):ATs X l R env ρ μ ((assign t env) :: ts) (x :: xs) Q:=λ g vs A s hv a r=>by
 refine E23 (hv.inv) λ _ vs q9 h1 h2=>?_;subst q9
 ·refine assignInOrder_cons (am (h g _ A s h1 a r) (λ Y dr hh=>?_) λ Y Y e=>e)
  obtain⟨du,dN,dp,dy,dz,q₁⟩:=hh
  exact am (q₁ du _ A dr (h2.mono dy) a dz) (λ Y Y q9=>by obtain⟨dC,dL,dt,dB,dv,eE⟩:=q9;exact⟨dC,dL,dt,dy.trans dB,dv,eE⟩) λ Y Y e=>e
theorem ATs.bind {n:Str}{ts:List (Value->Sem Unit)}{x:V}{xs:List V}{dm:Loc}{Q:Loc->Mem->Prop}(hk:env.kindOf n=some .local∨(env.kindOf n=some .cell/\env.func.isSome=true))(u:Up ρ n x dm)(h:ATs X l R env dm μ ts xs Q) :
  ATs X l R env ρ μ ((λ v=>bindName env n v) :: ts) (x :: xs) Q:=λ g vs A s hv a r=>by
 refine E23 (hv.inv) λ _ vs q9 h1 h2=>?_;subst q9
 ·exact assignInOrder_cons (wpAny_bindName (store r h1 hk u λ dr dz=>h g _ A dr h2 a dz))
noncomputable abbrev KUn (X:Ctx)(l:Nat)(R:Nat->Option Obj)(env:Env)(ρ:Loc)(ts:List (Value->Sem Unit))(Q:Loc->Mem->Prop):List V->Mem->Prop:=λ xs dp=>ATs X l R env ρ dp ts xs Q
noncomputable abbrev KTg (X:Ctx)(l:Nat)(R:Nat->Option Obj)(env:Env)(ρ:Loc)(t:Expr)(Q:Fl->Loc->Mem->Prop):V->Mem->Prop:=λ x dp=>AT X l R env ρ dp t x λ dm dl=>Q .next dm dl
noncomputable abbrev KSw (X:Ctx)(l:Nat)(R:Nat->Option Obj)(env:Env)(ρ:Loc)(names:List Str)(Q:Fl->Loc->Mem->Prop):V->Mem->Prop:=λ x dp=>UN X l R env ρ dp x names.length λ xs dt =>
   ATs X l R env ρ dt (names.reverse.map λ n=>bindName env n) xs.reverse λ dm dl=>Q .next dm dl
theorem AT.tuple {elts:List Expr}{k:Nat}{pos:Pos}{x:V}{Q:Loc->Mem->Prop}(h:UN X l R env ρ μ x (assignEach elts env).length (KUn X l R env ρ ((assignEach elts env).map (·.2)) Q))
  (hs:none=(assignEach elts env).findIdx? (·.1):=by exact rfl):AT X l R env ρ μ (.Tuple elts k pos) x Q:=by
 intro g v A s vr a r
 rw [PyProof.Rows.assign_Tuple]
 refine ag (cJ ?_)
 unfold unpack
 rw [<- hs]
 refine ag (aP (am (h g v vr A s a r) (λ vs dr hh=>?_) λ Y Y e=>e))
 obtain⟨du,dp,dy,dz,xs,vx,q⟩:=hh
 exact am (q du vs A dr vx a dz) (λ Y Y q9=>by obtain⟨dC,dL,dt,dB,dv,eE⟩:=q9;exact⟨dC,dL,dt,dy.trans dB,dv,eE⟩) λ Y Y e=>e
theorem XS.assignTuple {elts:List Expr}{k:Nat}{tpos pos:Pos}{value:Expr}{Q:Fl->Loc->Mem->Prop}(h:W X l R env ρ μ value (KTg X l R env ρ (.Tuple elts k tpos) Q))
  (hs:pure false=swapsWithSole [.Tuple elts k tpos] value pos.line env:=by exact rfl)
  (hw:pure none=swappedStores [.Tuple elts k tpos] value env:=by exact rfl):XS X l R env ρ μ (.Assign [.Tuple elts k tpos] value pos) Q:=by
 intro g A s a r
 refine Assign_Tuple (am (h g A s a r) (λ v dr hh=>?_) λ Y Y e=>e) hs.symm hw.symm
 obtain⟨du,dp,dy,dz,x,vx,dw⟩:=hh
 exact am (dw du v A dr vx a dz) (λ Y Y q9=>by obtain⟨dC,dL,dt,dB,dv,eE⟩:=q9;exact⟨dC,dL,dt,.next,dy.trans dB,dv,rfl,eE⟩) λ Y Y e=>e
theorem XS.assignSwap {elts:List Expr}{k:Nat}{tpos pos:Pos}{value:Expr}{names:List Str}{Q:Fl->Loc->Mem->Prop}(h:W X l R env ρ μ value (KSw X l R env ρ names Q))
  (hs:pure false=swapsWithSole [.Tuple elts k tpos] value pos.line env:=by exact rfl)
  (hw:pure (some names)=swappedStores [.Tuple elts k tpos] value env:=by exact rfl):XS X l R env ρ μ (.Assign [.Tuple elts k tpos] value pos) Q:=by
 intro g A s a r
 refine Assign_Tuple_swapped (names:=names) (am (h g A s a r) (λ v dr hh=>?_) λ Y Y e=>e) hs.symm hw.symm
 obtain⟨du,dp,dy,dz,x,vx,dw⟩:=hh
 refine am (dw du v vx A dr a dz) (λ vs dq hh=>?_) λ Y Y e=>e
 obtain⟨dC,dt,dB,dv,xs,vxs,dJ⟩:=hh
 exact am (dJ dC _ A dq vxs.reverse a dv) (λ Y Y q9=>by obtain⟨d8,eI,dK,dU,dS,q₃⟩:=q9;exact⟨d8,eI,dK,.next,(dy.trans dB).trans dU,dS,rfl,q₃⟩) λ Y Y e=>e
set_option tactic.hygienic true in
theorem IT.rng {a b:Int}(ha:-1000000<=a/\a<=1000000)(hb:-1000000<=b/\b<=1000000):IT X l R env ρ μ (.rng a b) (rngV a b) (λ Y=>True) (λ Y=>True):=by
 intro g v A s vr ao r hx
 refine E42 (r.rng vr) λ p t u w q9 ho=>?_;subst q9
 refine wpAny_pyIter_range ho (small_one (by lia) (by lia) (by lia) (by lia)) ?_
 rw [rangeSize_nat]
 refine⟨s.heap.objs.size,[s.heap.objs.size],_,λ Y=>True,g,rfl,.rfl,r.push _,.one (P:=λ o i=>o={ cls:=.type "range_iterator",data:=.fields #[rawInt (a+i),rawInt (((b - a).toNat:Int) - i),rawInt 1] }) (λ Y Y Y Y=>trivial) (λ o i h=>⟨"range_iterator",by subst h;rfl,by decide⟩) ?_ ?_ ?_,trivial,λ c hc=>?_,_,aJ _ rfl,?_⟩
 ·intro R env ρ g μ s A l i z o ao r _ _ f ho hp hz
  rw [zcP]at hz
  split at hz
  ·rename_i hi
   cases hz
   rw [hp]at ho
   refine wpAny_pyNext_range_item ho (by lia) λ h' hi' hs=>?_
   refine⟨_,_,rfl,r.but f (λ b o ne h=>(hs.2 b ne).trans h) rfl rfl rfl,⟨_,rfl⟩,hi',?_⟩
   have e1:a+(i:Int)+1=a+((i+1:Nat):Int):=by lia
   have e2:((b - a).toNat:Int) - (i:Int) - 1=((b - a).toNat:Int) - ((i+1:Nat):Int):=by lia
   rw [e1,e2]
  ·cases hz
 ·intro R env ρ g μ s A l i o ao r _ _ f ho hp hz
  rw [zcP]at hz
  split at hz
  ·cases hz
  ·rename_i hi
   rw [hp]at ho
   exact wpAny_pyNext_range_end ao.handled ho (by lia) λ h' hx=>⟨rfl,r.but f (λ b o ne h=>hx b o ne h) rfl rfl rfl⟩
 ·intro A s i o Q ho hp h
  rw [hp]at ho
  exact wpAny_pyIter_rangeiter ho h
 ·cases List.mem_singleton.mp hc;exact .newest r (an _) (zaM r)
 ·simp
end
abbrev bI:=@ATs.cons
abbrev cP:=@XS.assignTuple
abbrev cX:=@ATs.nil
abbrev da:=@AT.tuple
abbrev dj:=@UN.tup
section
variable {prog:Program}{w:World}{A:Around}{E:Value->Shared->Prop}{s:Shared}
structure DF (prog:Program)(w:World)(s:Shared)(d:Nat)(key:Value)(i:Option Nat)(h:Int):Prop where
 hash:∃ n:Nat,∀ (A:Around) (E:Value->Shared->Prop) (Q:Int->Shared->Prop) (t:Nat),A.units+8 < cLine->Q h { s with toks:=t+n }->wpAny (model prog w) A (pyHash key) Q E { s with toks:=t }
 find:∀ (A:Around) (E:Value->Shared->Prop) (Q:Option Nat->Shared->Prop) (t:Nat),A.units+8 < cLine->Q i { s with toks:=t }->wpAny (model prog w) A (dictFind d key h) Q E { s with toks:=t }
structure DAt (s:Shared)(d:Nat)(o:Obj)(es:Array DictEntry)(ep:Nat):Prop where
 at_:s.heap.get? d=some o
 exact_:o.ExactDict
 data:o.data = .dict es ep
theorem DAt.typeIs' {d:Nat}{o:Obj}{es:Array DictEntry}{ep:Nat}(x:DAt s d o es ep):s.TypeIs (.ref d) "dict":=⟨o,x.at_,x.exact_.1⟩
variable {d:Nat}{o:Obj}{es:Array DictEntry}{ep:Nat}{key:Value}{i:Option Nat}{h:Int}
theorem zhi (D:DAt s d o es ep)(G:DF prog w s d key i h){Q:Option Value->Shared->Prop}(hu:A.units+8 < cLine)(q:∀ t,Q (i.bind λ j=>es[j]?.map (·.val)) { s with toks:=t }):wpAny (model prog w) A (dictGet d key) Q E s:=by
 obtain⟨n,hh⟩:=G.hash
 unfold dictGet
 refine aP ?_
 refine ag (hh A E _ s.toks hu (ag (G.find A E _ _ hu ?_)))
 induction i with
 | none=>exact ai (q _)
 | some j=>exact ag (wpAny_dictEntries (s:={ s with toks:=s.toks+n }) D.at_ D.data (ai (q _)))
theorem zhE (D:DAt s d o es ep){j:Nat}{e:DictEntry}(G:DF prog w s d key (some j) h)(he:es[j]? = some e){Q:Value->Shared->Prop}(hu:A.units+9 < cLine)(q:∀ t,Q e.val { s with toks:=t }):wpAny (model prog w) A (getItem (.ref d) key) Q E s:=by
 unfold getItem
 refine aP ?_
 refine ag (wpAny_sequenceKey D.typeIs' (by decide) ?_)
 refine ag (wpAny_callSpecial?_slot (name:=Str.ofString "__getitem__") D.typeIs' slot_dict_getitem
  (bq slot_dict_getitem D.typeIs' entry_dict_getitem ?_ (args_dict_getitem _ _)))
 show wpAny _ _ (dictGet d key >>= _) _ _ s
 refine ag (zhi D G (by show A.units+1+8 < _;assumption) λ t=>?_)
 rw [Option.bind_some,he]
 exact ai ⟨e.val,rfl,ai (q t)⟩
theorem zks (D:DAt s d o es ep)(G:DF prog w s d key i h)(hd:(d == sysModules)=false)(hi:∀ j,i=some j->j < es.size){Q:Value->Shared->Prop}(hu:A.units+9 < cLine)(q:∀ t,Q (.bool i.isSome) { s with toks:=t }):wpAny (model prog w) A (compareOp .In key (.ref d)) Q E s:=by
 show wpAny _ _ (do return .bool (<- contains (.ref d) key)) Q E s
 refine ag ?_
 unfold contains
 refine aP ?_
 refine ag (wpAny_specialOf D.typeIs' slot_dict_contains.lookup ?_)
 show wpAny _ _ (if (some (Value.builtin "dict.__contains__") == some Value.none)=true then _ else _) _ E s
 refine bm rfl ?_
 refine ag (wpAny_callSpecialUnlessNone?_slot (name:=Str.ofString "__contains__") D.typeIs' slot_dict_contains
  (bq slot_dict_contains D.typeIs' entry_dict_contains ?_ (args_dict_contains _ _)))
 show wpAny _ _ (dictGet d key >>= _) _ _ s
 refine ag (zhi D G (by show A.units+1+8 < _;assumption) λ t=>?_)
 induction i with
 | some j =>
  have hj:=hi j rfl
  rw [Option.bind_some,bp hj]
  show wpAny _ _ (ret (.bool true)) _ _ _
  exact ai ⟨_,rfl,wpAny_truthy_bool (ai (q t))⟩
 | none =>
  show wpAny _ _ (Builtin.Dict.pendingKey? d key >>= _) _ _ _
  exact ag (wpAny_pendingKey_other hd (ai ⟨_,rfl,wpAny_truthy_bool (ai (q t))⟩))
theorem zjc (D:DAt s d o es ep)(G:DF prog w s d key i h)(hd:(d == sysModules)=false)(hi:∀ j,i=some j->j < es.size){Q:Value->Shared->Prop}(hu:A.units+9 < cLine)(q:∀ t,Q (.bool !i.isSome) { s with toks:=t }):wpAny (model prog w) A (compareOp .NotIn key (.ref d)) Q E s:=by
 show wpAny _ _ (do return .bool (!(<- contains (.ref d) key))) Q E s
 refine ag ?_
 unfold contains
 refine aP ?_
 refine ag (wpAny_specialOf D.typeIs' slot_dict_contains.lookup ?_)
 show wpAny _ _ (if (some (Value.builtin "dict.__contains__") == some Value.none)=true then _ else _) _ E s
 refine bm rfl ?_
 refine ag (wpAny_callSpecialUnlessNone?_slot (name:=Str.ofString "__contains__") D.typeIs' slot_dict_contains
  (bq slot_dict_contains D.typeIs' entry_dict_contains ?_ (args_dict_contains _ _)))
 show wpAny _ _ (dictGet d key >>= _) _ _ s
 refine ag (zhi D G (by show A.units+1+8 < _;assumption) λ t=>?_)
 induction i with
 | some j =>
  have hj:=hi j rfl
  rw [Option.bind_some,bp hj]
  show wpAny _ _ (ret (.bool true)) _ _ _
  exact ai ⟨_,rfl,wpAny_truthy_bool (ai (q t))⟩
 | none =>
  show wpAny _ _ (Builtin.Dict.pendingKey? d key >>= _) _ _ _
  exact ag (wpAny_pendingKey_other hd (ai ⟨_,rfl,wpAny_truthy_bool (ai (q t))⟩))
noncomputable def DNew (s:Shared)(d:Nat)(es':Array DictEntry)(h':Heap):Prop:=Heap.SameBut d s.heap h'/\∃ o' ep',h'.get? d=some o'/\o'.ExactDict/\o'.data = .dict es' ep'
theorem zdF (D:DAt s d o es ep)(f:Array DictEntry->Array DictEntry):DNew s d (f es) (s.heap.update d (Obj.mapDictKeys f)) :=
 ⟨Heap.SameBut.update ..,_,ep+1,Heap.get?_update_self _ D.at_ (Obj.isFreed_of_dict (Obj.data_mapDictKeys D.data _)),D.exact_.mapDictKeys _,Obj.data_mapDictKeys D.data _⟩
theorem ziu (D:DAt s d o es ep)(f:Array DictEntry->Array DictEntry):DNew s d (f es) (s.heap.update d (Obj.mapDict f)) :=
 ⟨Heap.SameBut.update ..,_,ep,Heap.get?_update_self _ D.at_ (Obj.isFreed_of_dict (Obj.data_mapDict D.data _)),D.exact_.mapDict _,Obj.data_mapDict D.data _⟩
noncomputable def dPutEs (es:Array DictEntry)(i:Option Nat)(h:Int)(key v:Value):Array DictEntry:=match i with
 | some j=>es.modify j λ e=>{ e with val:=v }
 | none=>es.push ⟨h,key,v⟩
theorem zkc (D:DAt s d o es ep)(G:DF prog w s d key i h){v:Value}{Q:Unit->Shared->Prop}(hz:es.size<=sizeLine)(hu:A.units+8 < cLine)(q:∀ h' t,DNew s d (dPutEs es i h key v) h'->Q () { s with heap:=h',toks:=t }):wpAny (model prog w) A (dictSet d key v) Q E s:=by
 obtain⟨n,hh⟩:=G.hash
 unfold dictSet
 refine aP ?_
 refine ag (hh A E _ s.toks hu ?_)
 unfold dictSetHashed
 refine aP ?_
 refine ag (G.find A E _ _ hu ?_)
 induction i with
 | none=>exact ag (wpAny_rule (wpAny_updateDictKeys (hz:=hz) (s:={ s with toks:=s.toks+n }) D.at_ D.data (q _ _ (zdF D _))))
 | some j=>exact ag (wpAny_rule (ag (wpAny_updateDict (s:={ s with toks:=s.toks+n }) D.at_ D.data (wpAny_point (q _ _ (ziu D _))))))
theorem zhm (D:DAt s d o es ep)(G:DF prog w s d key i h){v:Value}{Q:Unit->Shared->Prop}(hz:es.size<=sizeLine)(hu:A.units+9 < cLine)(q:∀ h' t,DNew s d (dPutEs es i h key v) h'->Q () { s with heap:=h',toks:=t }):wpAny (model prog w) A (setItem (.ref d) key v) Q E s:=by
 unfold setItem
 refine aP ?_
 refine ag (wpAny_sequenceKey D.typeIs' (by decide) ?_)
 refine ag (wpAny_callSpecial?_slot (name:=Str.ofString "__setitem__") D.typeIs' slot_dict_setitem
  (bq slot_dict_setitem D.typeIs' entry_dict_setitem ?_ (args_dict_setitem _ _ _)))
 show wpAny _ _ (Builtin.Dict.notOrdered "__setitem__" ⟨[.ref d,key,v],[]⟩ >>= _) _ _ s
 refine ag (wpAny_notOrdered_dict D.typeIs' ?_)
 show wpAny _ _ (dictSet d key v >>= _) _ _ s
 exact ag (zkc D G hz (by show A.units+1+8 < _;assumption) λ h' t hn=>ai ⟨.none,rfl,ai (q h' t hn)⟩)
theorem zeQ (D:DAt s d o es ep)(G:DF prog w s d key i h)(hd:(d == sysModules)=false)(hi:∀ j,i=some j->j < es.size){v:Value}{Q:Value->Shared->Prop}(hz:es.size<=sizeLine)(hu:A.units+9 < cLine)
  (q1:∀ j e t,i=some j->es[j]? = some e->Q e.val { s with toks:=t }) (q2:i=none->∀ h' t,DNew s d (es.push ⟨h,key,v⟩) h'->Q v { s with heap:=h',toks:=t }):wpAny (model prog w) A (call (.builtin "dict.setdefault") [.ref d,key,v]) Q E s:=by
 obtain⟨n,hh⟩:=G.hash
 have hu':A.in1.units+8 < cLine:=by show A.units+1+8 < _;assumption
 refine bq F.slot_dict_setdefault D.typeIs' F.entry_dict_setdefault ?_ (F.args_dict_setdefault_3 _ _ _)
 unfold Builtin.«dict.setdefault»
 refine ag ?_
 unfold Builtin.Dict.keyAndDefault
 refine ag (wpAny_notOrdered_dict D.typeIs' ?_)
 show wpAny _ _ (pure (d,key,some v)) _ _ s
 refine ai ?_
 show wpAny _ _ (if (d == sysModules)=true then _ else (dictSetDefault d key v >>= _)) _ _ s
 refine bm (bK ((by rw [hd];exact Bool.false_ne_true))) ?_
 refine ag ?_
 unfold dictSetDefault
 refine aP ?_
 refine ag (hh A.in1 E _ s.toks hu' ?_)
 refine ag (G.find A.in1 E _ _ hu' ?_)
 induction i with
 | some j =>
  have hj:=hi j rfl
  refine ag (wpAny_dictEntries (s:={ s with toks:=s.toks+n }) D.at_ D.data ?_)
  rw [bp hj]
  exact ag (wpAny_rule (ai (ai ⟨_,rfl,q1 j _ _ rfl (bp hj)⟩)))
 | none=>exact ag (wpAny_rule (ag (wpAny_updateDictKeys (hz:=hz) (s:={ s with toks:=s.toks+n }) D.at_ D.data (ai (ai ⟨v,rfl,q2 rfl _ _ (zdF D _)⟩)))))
theorem zjU (D:DAt s d o es ep)(G:DF prog w s d key i h)(hd:(d == sysModules)=false){v:Value}{Q:Value->Shared->Prop}(hu:A.units+9 < cLine)
  (q:∀ t,Q ((i.bind λ j=>es[j]?.map (·.val)).getD v) { s with toks:=t }):wpAny (model prog w) A (call (.builtin "dict.get") [.ref d,key,v]) Q E s:=by
 refine bq F.slot_dict_get D.typeIs' F.entry_dict_get ?_ (F.args_dict_get_3 _ _ _)
 show wpAny _ _ (dictGet d key >>= _) _ _ s
 refine ag (zhi D G (by show A.units+1+8 < _;assumption) λ t=>?_)
 have q:=q t
 generalize (i.bind λ j=>es[j]?.map (·.val))=r at q ⊢
 induction r with
 | some u=>exact ai ⟨u,rfl,q⟩
 | none =>
  show wpAny _ _ (Builtin.Dict.missed d key >>= _) _ _ _
  exact ag (wpAny_missed_other hd (ai ⟨v,rfl,q⟩))
theorem zep (D:DAt s d o es ep){j:Nat}{e:DictEntry}(G:DF prog w s d key (some j) h)(he:es[j]? = some e){Q:Option DictEntry->Shared->Prop}(hz:es.size<=sizeLine)(hu:A.units+8 < cLine)(q:∀ h' t,DNew s d (es.eraseIdxIfInBounds j) h'->Q (some e) { s with heap:=h',toks:=t }) :
  wpAny (model prog w) A (Builtin.Dict.takeOut d key) Q E s:=by
 obtain⟨n,hh⟩:=G.hash
 unfold Builtin.Dict.takeOut
 refine aP ?_
 refine ag (hh A E _ s.toks hu ?_)
 refine ag (G.find A E _ _ hu ?_)
 refine ag (wpAny_dictEntries (s:={ s with toks:=s.toks+n }) D.at_ D.data ?_)
 rw [he]
 exact ag (wpAny_updateDictKeys (hz:=hz) (s:={ s with toks:=s.toks+n }) D.at_ D.data (ai (q _ _ (zdF D _))))
theorem zhZ (D:DAt s d o es ep){j:Nat}{e:DictEntry}(G:DF prog w s d key (some j) h)(he:es[j]? = some e){Q:Unit->Shared->Prop}(hz:es.size<=sizeLine)(hu:A.units+9 < cLine)(q:∀ h' t,DNew s d (es.eraseIdxIfInBounds j) h'->Q () { s with heap:=h',toks:=t }) :
  wpAny (model prog w) A (delItem (.ref d) key) Q E s:=by
 refine wpAny_delItem_slot D.typeIs' (by decide) F.slot_dict_delitem ?_
 refine bq F.slot_dict_delitem D.typeIs' F.entry_dict_delitem ?_ (F.args_dict_delitem_2 _ _)
 unfold Builtin.«dict.__delitem__»
 refine ag ?_
 unfold Builtin.Dict.dictSlotArgs
 refine ag (wpAny_notOrdered_dict D.typeIs' ?_)
 show wpAny _ _ (pure (Value.ref d,key)) _ _ s
 refine ai ?_
 show wpAny _ _ (Builtin.Dict.takeOut d key >>= _) _ _ s
 refine ag (zep D G he hz (by show A.units+1+8 < _;assumption) λ h' t hn=>?_)
 exact ag (wpAny_letGo (ai ⟨.none,rfl,q h' t hn⟩))
theorem zkf (D:DAt s d o es ep){j:Nat}{e:DictEntry}(G:DF prog w s d key (some j) h)(he:es[j]? = some e)(hpart:(keyPart key).isSome=true){Q:Value->Shared->Prop}(hz:es.size<=sizeLine)(hu:A.units+9 < cLine)(q:∀ h' t,DNew s d (es.eraseIdxIfInBounds j) h'->Q e.val { s with heap:=h',toks:=t }) :
  wpAny (model prog w) A (call (.builtin "dict.pop") [.ref d,key]) Q E s:=by
 refine bq F.slot_dict_pop D.typeIs' F.entry_dict_pop ?_ (F.args_dict_pop_2 _ _)
 unfold Builtin.«dict.pop»
 refine ag ?_
 unfold Builtin.Dict.keyAndDefault
 refine ag (wpAny_notOrdered_dict D.typeIs' ?_)
 show wpAny _ _ (pure (d,key,none)) _ _ s
 refine ai ?_
 simp only [hpart,if_true]
 refine ag (ai ?_)
 refine bm rfl ?_
 refine ag (zep D G he hz (by show A.units+1+8 < _;assumption) λ h' t hn=>?_)
 simp only [Option.isNone_some,bQ,if_false]
 exact ag (wpAny_letGo (ai ⟨e.val,rfl,q h' t hn⟩))
end
end Internal
set_option linter.unusedSectionVars false
namespace Internal
section
variable {K:Type} [DecidableEq K]
noncomputable def aget:List (K × V)->K->Option V
 | [],_=>none
 | (a,v) :: r,k=>if a=k then some v else aget r k
noncomputable def aput:List (K × V)->K->V->List (K × V)
 | [],k,v=>[(k,v)]
 | (a,u) :: r,k,v=>if a=k then (a,v) :: r else (a,u) :: aput r k v
noncomputable def adel:List (K × V)->K->List (K × V)
 | [],_=>[]
 | (a,u) :: r,k=>if a=k then r else (a,u) :: adel r k
noncomputable def apos:List (K × V)->K->Option Nat
 | [],_=>none
 | (a,_) :: r,k=>if a=k then some 0 else (apos r k).map (· + 1)
theorem zaq {a k:K}{v:V}{r:List (K × V)}:aget ((a,v) :: r) k=if a=k then some v else aget r k:=rfl
theorem zdn {a k:K}{u v:V}{r:List (K × V)}:aput ((a,u) :: r) k v=if a=k then (a,v) :: r else (a,u) :: aput r k v:=rfl
theorem zfC {a k:K}{u:V}{r:List (K × V)}:adel ((a,u) :: r) k=if a=k then r else (a,u) :: adel r k:=rfl
theorem zcr {a k:K}{u:V}{r:List (K × V)}:apos ((a,u) :: r) k=if a=k then some 0 else (apos r k).map (· + 1):=rfl
theorem za3:∀ {l:List (K × V)}{k:K}{j:Nat},apos l k=some j->∃ v,l[j]? = some (k,v)/\aget l k=some v
 | (a,u) :: r,k,j,h=>by
  rw [zcr]at h
  by_cases e:a=k
  ·rw [aB e]at h;cases h;exact⟨u,by rw [<- e];rfl,by rw [zaq,aB e]⟩
  ·rw [aw e]at h
   refine E12 (Option.map_eq_some_iff.mp h) λ i hi q9=>?_;subst q9
   refine E12 (za3 hi) λ v h1 h2=>?_
   exact⟨v,h1,by rw [zaq,aw e];exact h2⟩
theorem zco:∀ {l:List (K × V)}{k:K},apos l k=none->k∉l.map (·.1)/\aget l k=none
 | [],k,_=>⟨by simp,rfl⟩
 | (a,u) :: r,k,h=>by
  rw [zcr]at h
  by_cases e:a=k
  ·rw [aB e]at h;cases h
  ·rw [aw e]at h
   obtain⟨h1,h2⟩:=zco (Option.map_eq_none_iff.mp h)
   exact⟨by rw [aH,bD,not_or];exact⟨λ q=>e q.symm,h1⟩,by rw [zaq,aw e];exact h2⟩
theorem zbA:∀ {l:List (K × V)}{k:K}{v:V},aget l k=some v->∃ j,apos l k=some j
 | (a,u) :: r,k,v,h=>by
  rw [zaq]at h
  rw [zcr]
  by_cases e:a=k
  ·rw [aB e];exact⟨0,rfl⟩
  ·rw [aw e]at h ⊢
   obtain⟨j,hj⟩:=zbA h
   exact⟨j+1,by rw [hj];rfl⟩
theorem zdD {l:List (K × V)}{k:K}:(apos l k).isSome=(aget l k).isSome:=by
 induction h:apos l k with
 | none=>rw [(zco h).2];rfl
 | some j=>refine E12 (za3 h) λ v _ h2=>?_;rw [h2];rfl
theorem ziv {l:List (K × V)}{k:K}{j:Nat}(h:apos l k=some j):j < l.length:=by
 refine E12 (za3 h) λ v h1 _=>?_;exact(List.getElem?_eq_some_iff.mp h1).1
theorem zfN:∀ {l:List (K × V)}{k:K}{v:V},∀ x∈(aput l k v).map (·.1),x=k∨x∈l.map (·.1)
 | [],k,v,x,h=>by simp [aput]at h;exact .inl h
 | (a,u) :: r,k,v,x,h=>by
  rw [zdn]at h
  by_cases e:a=k
  ·rw [aB e]at h;exact .inr (by simpa using h)
  ·rw [aw e,aH,bD]at h
   rcases h with h | h
   ·exact .inr (by simp [h])
   ·rcases zfN x h with h | h
    ·exact .inl h
    ·exact .inr (by rw [aH];exact .tail _ h)
theorem zb4:∀ {l:List (K × V)}{k:K}{v:V},(l.map (·.1)).Nodup->((aput l k v).map (·.1)).Nodup
 | [],k,v,_=>by simp [aput]
 | (a,u) :: r,k,v,h=>by
  rw [aH,bL]at h
  rw [zdn]
  by_cases e:a=k
  ·rw [aB e,aH,bL];exact h
  ·rw [aw e,aH,bL]
   refine⟨λ q=>?_,zb4 h.2⟩
   rcases zfN _ q with q | q
   ·exact e q
   ·exact h.1 q
theorem zgV:∀ {l:List (K × V)}{k:K},∀ x∈(adel l k).map (·.1),x∈l.map (·.1)
 | [],_,x,h=>h
 | (a,u) :: r,k,x,h=>by
  rw [zfC]at h
  by_cases e:a=k
  ·rw [aB e]at h;rw [aH];exact .tail _ h
  ·rw [aw e,aH,bD]at h
   rw [aH]
   rcases h with h | h
   ·rw [h];exact .head _
   ·exact .tail _ (zgV x h)
theorem zb3:∀ {l:List (K × V)}{k:K},(l.map (·.1)).Nodup->((adel l k).map (·.1)).Nodup
 | [],_,h=>h
 | (a,u) :: r,k,h=>by
  rw [aH,bL]at h
  rw [zfC]
  by_cases e:a=k
  ·rw [aB e];exact h.2
  ·rw [aw e,aH,bL]
   exact⟨λ q=>h.1 (zgV _ q),zb3 h.2⟩
theorem zd0 {l:List (K × V)}{k:K}{v:V}:(aput l k v).length<=l.length+1:=by
 induction l with
 | nil=>simp [aput]
 | cons p r ih=>obtain⟨a,u⟩:=p;rw [zdn];split <;> simp <;> (first | assumption | omega)
variable {P:Params}{g:Gh}{hash:K->Int}{is:K->Value->Prop}
theorem Ens.at_ {l:List (K × V)}{es:List DictEntry}(h:Ens P g hash is l es):∀ {j:Nat} {k:K} {v:V},l[j]? = some (k,v)->∃ e,es[j]? = some e/\e.hash=hash k/\is k e.key/\VR g v e.val:=by
 induction h with
 | nil=>intro j k v h;cases h
 | cons a b c _ ih =>
  intro j k v h
  induction j with
  | zero=>cases h;exact⟨_,rfl,a,b,c⟩
  | succ j=>exact ih (j:=j) h
theorem Ens.putOld {l:List (K × V)}{es:List DictEntry}(h:Ens P g hash is l es){k:K}{v:V}{w:Value}(vr:VR g v w):∀ {j:Nat},apos l k=some j->Ens P g hash is (aput l k v) (es.modify j λ e=>{ e with val:=w }):=by
 induction h with
 | nil=>intro j h;cases h
 | @cons a u e xs es h1 h2 h3 h4 ih =>
  intro j h
  rw [zcr]at h
  rw [zdn]
  by_cases q:a=k
  ·rw [aB q]at h ⊢;cases h;exact .cons h1 h2 vr h4
  ·rw [aw q]at h ⊢
   refine E12 (Option.map_eq_some_iff.mp h) λ i hi q9=>?_;subst q9
   exact .cons h1 h2 h3 (ih hi)
theorem Ens.putNew {l:List (K × V)}{es:List DictEntry}(h:Ens P g hash is l es){k:K}{v:V}{key w:Value}(hk:is k key)(vr:VR g v w):apos l k=none->Ens P g hash is (aput l k v) (es ++ [⟨hash k,key,w⟩]):=by
 induction h with
 | nil=>intro _;exact .cons rfl hk vr .nil
 | @cons a u e xs es h1 h2 h3 h4 ih =>
  intro h
  rw [zcr]at h
  rw [zdn]
  by_cases q:a=k
  ·rw [aB q]at h;cases h
  ·rw [aw q]at h ⊢
   exact .cons h1 h2 h3 (ih (Option.map_eq_none_iff.mp h))
theorem Ens.del {l:List (K × V)}{es:List DictEntry}(h:Ens P g hash is l es){k:K}:∀ {j:Nat},apos l k=some j->Ens P g hash is (adel l k) (es.eraseIdx j):=by
 induction h with
 | nil=>intro j h;cases h
 | @cons a u e xs es h1 h2 h3 h4 ih =>
  intro j h
  rw [zcr]at h
  rw [zfC]
  by_cases q:a=k
  ·rw [aB q]at h ⊢;cases h;exact h4
  ·rw [aw q]at h ⊢
   refine E12 (Option.map_eq_some_iff.mp h) λ i hi q9=>?_;subst q9
   exact .cons h1 h2 h3 (ih hi)
theorem Ens.idx {prog:Program}{w:World}(knd:KeyKind prog w K){l:List (K × V)}{es:List DictEntry}(h:Ens P g hash is l es)(hi:∀ k v,is k v->knd.is k v=true)(k:K):es.findIdx? (λ e=>knd.is k e.key)=apos l k:=by
 induction h with
 | nil=>rfl
 | @cons a u e xs es h1 h2 h3 h4 ih =>
  rw [List.findIdx?_cons]
  rw [zcr]
  have e1:knd.is k e.key=decide (k=a):=KeyKind.is_eq_decide (hi _ _ h2) k
  by_cases q:a=k
  ·subst q;rw [e1];simp
  ·have:¬ k=a:=λ e=>q e.symm
   rw [e1,aw q,bK this]
   simp [ih]
theorem Ens.keysOf {prog:Program}{w:World}(knd:KeyKind prog w K){l:List (K × V)}{es:List DictEntry}(h:Ens P g hash is l es)(hi:∀ k v,is k v->knd.is k v=true)(hh:∀ k,hash k=knd.hash k):∀ e∈es,∃ k,knd.is k e.key=true/\e.hash=knd.hash k:=by
 induction h with
 | nil=>intro e he;cases he
 | cons h1 h2 h3 h4 ih =>
  intro e he
  rcases List.mem_cons.mp he with rfl | he
  ·exact⟨_,hi _ _ h2,by rw [h1,hh]⟩
  ·exact ih e he
end
set_option genInjectivity false in
structure Kd (K:Type) [DecidableEq K] where
 mo:List (K × V)->MO
 key:K->V
 hash:World->K->Int
 is:Gh->K->Value->Prop
 muo:∀ w g h a d es,MuO w g h a d (mo es)↔(d=a/\(es.map (·.1)).Nodup/\∃ o rs n,h.get? a=some o/\o.ExactDict/\o.data = .dict rs n/\Ens w.params g (hash w) (is g) es rs.toList)
 isD:∀ es,IsD (mo es)
 vr:∀ g k v,VR g (key k) v->is g k v
 df:∀ {X:Ctx} {R:Nat->Option Obj} {env:Env} {ρ:Loc} {g:Gh} {μ:Mem} {s:Shared},Rep X R env ρ g μ s->∀ {d:Nat} {o:Obj} {es:Array DictEntry} {ep:Nat} {l:List (K × V)} {k:K} {v:Value},DAt s d o es ep->Ens X.w.params g (hash X.w) (is g) l es.toList->(l.map (·.1)).Nodup->is g k v->DF X.prog X.w s d v (apos l k) (hash X.w k)
section
variable {X:Ctx}{R:Nat->Option Obj}{env:Env}{ρ:Loc}{g:Gh}{μ:Mem}{s:Shared}
theorem zhq {K:Type} [DecidableEq K] (knd:KeyKind X.prog X.w K) {hash:K->Int} {is:K->Value->Prop} (hi:∀ k v,is k v->knd.is k v=true) (hh:∀ k,hash k=knd.hash k) {P:Params} {d:Nat} {o:Obj} {es:Array DictEntry} {ep:Nat} {l:List (K × V)} {k:K} {v:Value}
  (D:DAt s d o es ep) (h:Ens P g hash is l es.toList) (hk:is k v):DF X.prog X.w s d v (apos l k) (hash k):=by
 refine⟨⟨1,λ A E Q t hu q=>?_⟩,λ A E Q t hu q=>?_⟩
 ·rw [hh]at q;exact knd.pyHash (s:={ s with toks:=t }) (hi _ _ hk) q
 ·rw [hh]
  refine wpAny_dictFind_of (s:={ s with toks:=t }) (hi _ _ hk) D.at_ D.data (λ e he=>h.keysOf knd hi hh e (Array.mem_toList_iff.mpr he)) ?_
  have:=h.idx knd hi k
  have e2:es.findIdx? (λ e=>knd.is k e.key)=es.toList.findIdx? (λ e=>knd.is k e.key):=by obtain⟨l⟩:=es;simp
  rw [e2,this]
  exact q
end
theorem zj5 (k:Int)(v:Value)(h:isI k v):Value.isInt k v=true:=by obtain⟨t,rfl⟩:=h;simp [Value.isInt]
noncomputable def kI:Kd Int where
 mo:=.dI
 key:=.int
 hash:=λ Y=>hashInt
 is:=λ Y=>isI
 muo:=λ Y Y Y Y Y Y=>.rfl
 isD:=λ Y=>.i
 vr:=λ Y Y Y h=>h
 df:=λ r Y Y Y Y Y Y Y D h Y hk=>zhq (intKind _ _) zj5 (λ Y=>rfl) D h hk
noncomputable def KA.isB:KA->Value->Bool
 | .s x=>Value.isStrOf x
 | .i n=>Value.isInt n
theorem KA.el {k:KA}{v:Value}(h:k.isB v=true)(C:KA->Value->Prop)(h1:∀ x t,C (.s x) (.str x t))(h2:∀ n t,C (.i n) (.int n t)):C k v:=by
 induction k with
 | s x=>obtain⟨t,rfl⟩:=Value.isStrOf_shape h;exact h1 x t
 | i n=>obtain⟨t,rfl⟩:=Value.isInt_shape h;exact h2 n t
theorem KA.str_inv {k:KA}{x:Str}{t:Nat}(h:k.isB (.str x t)=true):k = .s x:=by
 generalize hv:Value.str x t=v at h
 revert hv;apply KA.el h
 ·intro y u e;cases e;rfl
 ·intro y u e;cases e
theorem KA.int_inv {k:KA}{n:Int}{t:Nat}(h:k.isB (.int n t)=true):k = .i n:=by
 generalize hv:Value.int n t=v at h
 revert hv;apply KA.el h
 ·intro y u e;cases e
 ·intro y u e;cases e;rfl
theorem KA.eqs {x y:Str}:decide (x=y)=decide (KA.s x=KA.s y):=by simp
theorem KA.eqi {x y:Int}:(x == y)=decide (KA.i x=KA.i y):=by rw [bW];simp
theorem KA.eqsi {x:Str}{y:Int}:decide (KA.s x=KA.i y)=false:=bK λ e=>by cases e
theorem KA.eqis {x:Int}{y:Str}:decide (KA.i x=KA.s y)=false:=bK λ e=>by cases e
noncomputable def kaKind (prog:Program)(w:World):KeyKind prog w KA where
 is:=KA.isB
 hash:=hashA w
 inj:=λ v a b ha hb=>by
  revert hb;apply KA.el ha
  ·intro x t hb;exact(KA.str_inv hb).symm
  ·intro x t hb;exact(KA.int_inv hb).symm
 byValue:=λ k v h=>by
  apply KA.el h
  ·intro x t;rfl
  ·intro x t;rfl
 pyHash:=λ hv h=>by
  revert h;apply KA.el hv
  ·intro x t h;exact wpAny_pyHash_str h
  ·intro x t h;exact wpAny_pyHash_int h
 eqBool:=λ {A E s a b u v Q} hu hv h=>by
  revert h;apply KA.el hv
  ·intro y t';apply KA.el hu
   ·intro x t h;exact wpAny_eqBool_str (bo KA.eqs▸h)
   ·intro x t h;exact SeqAt.EqAt.int_str x t y t' prog w E Q (KA.eqis▸h)
  ·intro y t';apply KA.el hu
   ·intro x t h;exact SeqAt.EqAt.str_int x t y t' prog w E Q (KA.eqsi▸h)
   ·intro x t h;exact wpAny_eqBool_int (bo KA.eqi▸h)
 «strs»:=λ k x t v h=>by
  obtain rfl:=KA.str_inv h
  cases v <;> rfl
theorem KA.vr_isB {g:Gh}{k:KA}{v:Value}(h:VR g k.toV v):k.isB v=true:=by
 induction k with
 | s x=>obtain⟨t,rfl⟩:=h;simp [KA.isB,Value.isStrOf]
 | i n=>obtain⟨t,rfl⟩:=h;simp [KA.isB,Value.isInt]
theorem VRs.items {prog:Program}{w:World}{g:Gh}:∀ {ks:List KA} {vs:List Value},VRs g (ks.map KA.toV) vs->ItemsAre (kaKind prog w) ks vs
 | [],_,h=>by cases h;exact .nil
 | k :: ks,_,h=>by
  refine E23 (VRs.inv h) λ _ _ q9 a h2=>?_;subst q9
  ·exact .cons (KA.vr_isB a) (VRs.items h2)
section
variable {X:Ctx}{R:Nat->Option Obj}{env:Env}{ρ:Loc}{g:Gh}{μ:Mem}{s:Shared}
theorem Rep.tkey (r:Rep X R env ρ g μ s){k:List KA}{a:Nat}(h:g.im a=some (.tup (k.map KA.toV))):IsTupleKey (kaKind X.prog X.w) s.heap k a:=by
 obtain⟨items,⟨o,ho,hc,n,hd⟩,hv⟩:=r.im _ _ h
 exact⟨o,items,n,ho,hc,hd,hv.items⟩
theorem Rep.tents (r:Rep X R env ρ g μ s){l:List (List KA × V)}{es:List DictEntry}(h:Ens X.w.params g (hashT X.w) (isT g) l es) :
  ∃ xs:List (List KA × Addr × Value),es=xs.map (entryOfKey (tupleKind (kaKind X.prog X.w)))/\xs.map (·.1)=l.map (·.1)/\∀ x∈xs,IsTupleKey (kaKind X.prog X.w) s.heap x.1 x.2.1:=by
 induction h with
 | nil=>exact⟨[],rfl,rfl,λ Y h=>by cases h⟩
 | @cons k u e xs es h1 h2 h3 h4 ih =>
  refine E13 (ih) λ ys e1 e2 e3=>?_
  refine E12 (h2) λ a ha him=>?_
  refine⟨(k,a,e.val) :: ys,?_,by rw [aH,aH,e2],λ x hx=>?_⟩
  ·rw [aH,e1]
   congr 1
   cases e
   dsimp only at h1 ha ⊢
   rw [h1,ha];rfl
  ·rcases List.mem_cons.mp hx with rfl | hx
   ·exact r.tkey him
   ·exact e3 x hx
theorem zg8 {K β:Type} [DecidableEq K]:∀ {l:List (K × V)} {xs:List (K × β)} {k:K},xs.map (·.1)=l.map (·.1)->(∀ (j:Nat) (p:β),xs[j]? = some (k,p)->(l.map (·.1)).Nodup->apos l k=some j)/\((∀ (j:Nat) (p:β),xs[j]? ≠ some (k,p))->apos l k=none)
 | [],[],k,_=>⟨λ j p h=>(by cases h),λ Y=>rfl⟩
 | (a,u) :: r,(b,v) :: ys,k,h=>by
  rw [aH,aH,List.cons.injEq]at h
  obtain⟨rfl,h⟩:=h
  dsimp only at h ⊢
  obtain⟨i1,i2⟩:=zg8 (l:=r) (xs:=ys) (k:=k) h
  refine⟨λ j p e nd=>?_,λ hno=>?_⟩
  ·rw [aH,bL]at nd
   rw [zcr]
   induction j with
   | zero=>cases e;rw [aB rfl]
   | succ j =>
    have hm:k∈r.map (·.1):=by
     rw [<- h];exact List.mem_map.mpr ⟨_,ap (l:=ys) (i:=j) e,rfl⟩
    rw [aw (λ q=>nd.1 (by rw [q];exact hm)),i1 j p e nd.2];rfl
  ·rw [zcr]
   rw [aw (λ q=>hno 0 v (by rw [<- q];rfl)),i2 λ j p e=>hno (j+1) p e];rfl
end
noncomputable def kT:Kd (List KA) where
 mo:=.dT
 key:=λ k=>.tup (k.map KA.toV)
 hash:=hashT
 is:=isT
 muo:=λ Y Y Y Y Y Y=>.rfl
 isD:=λ Y=>.t
 vr:=λ Y Y Y h=>h
 df:=λ {X R env ρ g μ s} r {d o es ep l k v} D h nd hk=>by
  obtain⟨a,rfl,him⟩:=hk
  refine E13 (r.tents h) λ xs e1 e2 e3=>?_
  have ht:=r.tkey him
  refine⟨⟨k.length+1,λ A E Q t hu q=>?_⟩,λ A E Q t hu q=>?_⟩
  ·exact wpAny_pyHash_tuple (knd:=kaKind X.prog X.w) (s:={ s with toks:=t }) (by exact nrq ‹_›) ht q
  ·obtain⟨p1,p2⟩:=zg8 (l:=l) (xs:=xs) (k:=k) e2
   refine wpAny_dictFind_heap (knd:=tupleKind (kaKind X.prog X.w)) (s:={ s with toks:=t }) (show A.units < cLine by exact nrq ‹_›) ht D.at_ D.data e1 e3 (e2▸nd) (λ hno=>?_) λ j p hj=>?_
   ·rw [p2 hno]at q;exact q
   ·rw [p1 j p hj nd]at q;exact q
section
variable {X:Ctx}{l:Nat}{R:Nat->Option Obj}{env:Env}{ρ:Loc}{g g':Gh}{μ dl:Mem}{s s':Shared}{K:Type} [DecidableEq K] {kd:Kd K}
structure DHere (X:Ctx)(kd:Kd K)(g:Gh)(s:Shared)(k:Id)(es:List (K × V))(a:Nat)(o:Obj)(rs:Array DictEntry)(n:Nat):Prop where
 mu:g.mu k=some (a,a)
 at_:DAt s a o rs n
 nd:(es.map (·.1)).Nodup
 ens:Ens X.w.params g (kd.hash X.w) (kd.is g) es rs.toList
 sys:(a == sysModules)=false
theorem Rep.dictAt (r:Rep X R env ρ g μ s){k:Id}{es:List (K × V)}{v:Value}(hk:μ k=some (kd.mo es))(vr:VR g (.ref k) v):∃ a o rs n,v = .ref a/\DHere X kd g s k es a o rs n:=by
 refine E22 (r.mu _ _ hk) λ a d hg y=>?_
 apply refE vr hg
 obtain⟨rfl,nd,o,rs,n,ho,hx,hd,he⟩:=(kd.muo _ _ _ _ _ _).mp y
 refine⟨_,o,rs,n,rfl,hg,⟨ho,hx,hd⟩,nd,he,?_⟩
 induction h:(_ == sysModules:Bool)with
 | false=>rfl
 | true =>
  obtain⟨o',ho'⟩:=X.sys
  have:=r.baseR _ _ ho'
  rw [<- eq_of_beq h,(r.off _ _ _ hg).2.2.1]at this
  cases this
theorem Rep.setDict (r:Rep X R env ρ g μ s){k:Id}{es es':List (K × V)}{a:Nat}{o:Obj}{rs rs':Array DictEntry}{n:Nat}(D:DHere X kd g s k es a o rs n){h':Heap}(hn:DNew s a rs' h')(nd:(es'.map (·.1)).Nodup)(he:Ens X.w.params g (kd.hash X.w) (kd.is g) es' rs'.toList){t:Nat} :
  Rep X R env ρ g (μ.set k (kd.mo es')) { s with heap:=h',toks:=t }:=by
 obtain⟨hsb,q8⟩:=hn;refine E23 q8 λ o' ep' h1 h2 h3=>?_;clear q8
 have oL:=(r.fr.own env.locals (.inl rfl)).2.2 _ _ _ D.mu
 exact r.updMu (s':={ s with heap:=h',toks:=t }) (o:=kd.mo es') D.mu (λ b o h1 Y h3=>(hsb.2 b h1).trans h3) (zeX λ o h=>(hsb.2 _ (cp oL.1)).trans h) ((kd.muo _ _ _ _ _ _).mpr ⟨rfl,nd,o',rs',ep',h1,h2,h3,he⟩) rfl rfl rfl
theorem DHere.df (r:Rep X R env ρ g μ s){k:Id}{es:List (K × V)}{a:Nat}{o:Obj}{rs:Array DictEntry}{n:Nat}(D:DHere X kd g s k es a o rs n){key:K}{v:Value}(vr:VR g (kd.key key) v):DF X.prog X.w s a v (apos es key) (kd.hash X.w key) :=
 kd.df r D.at_ D.ens D.nd (kd.vr _ _ _ vr)
theorem DHere.lt {k:Id}{es:List (K × V)}{a:Nat}{o:Obj}{rs:Array DictEntry}{n:Nat}(D:DHere X kd g s k es a o rs n){key:K}:∀ j,apos es key=some j->j < rs.size:=λ j h=>by
 have h1:=ziv h
 have h2:=D.ens.length
 simp only [aE]at h2
 simp_all
theorem DHere.put {k:Id}{es:List (K × V)}{a:Nat}{o:Obj}{rs:Array DictEntry}{n:Nat}(D:DHere X kd g s k es a o rs n){key:K}{kv v:V}{kw w:Value}(hk:VR g (kd.key key) kw)(vr:VR g v w) :
  Ens X.w.params g (kd.hash X.w) (kd.is g) (aput es key v) (dPutEs rs (apos es key) (kd.hash X.w key) kw w).toList:=by
 induction h:apos es key with
 | none =>
  unfold dPutEs
  rw [Array.toList_push]
  exact D.ens.putNew (kd.vr _ _ _ hk) vr h
 | some j =>
  unfold dPutEs
  have:=D.ens.putOld vr h
  obtain⟨l⟩:=rs
  simpa using this
theorem AOk.u9 {A:Around}(a:AOk X A (l+1)):A.units+9 < cLine:=by have:=a.units;exact nro (by decide) ‹_›
theorem P2.itemD {value slice:Expr}{k:Id}{es:List (K × V)}{key:K}{z:V}{Q:V->Mem->Prop}(hk:μ k=some (kd.mo es))(hz:aget es key=some z)(q:Q z μ)
  (hs:∀ a b,subscripted slice false a b=operate [a,b] (getItem a b):=by intros;rfl):P2 X (l+1) R env ρ μ (subscriptTail value slice) (.ref k) (kd.key key) Q:=by
 intro g v u h1 h2 A s a r
 refine E42 (r.dictAt hk h1) λ d o rs n q9 D=>?_;subst q9
 have F:=D.df r h2
 obtain⟨j,hj⟩:=zbA hz
 refine E12 (za3 hj) λ z' hz' hz2=>?_
 rw [hz]at hz2;cases hz2
 refine E14 (D.ens.at_ hz') λ e he _ _ vr=>?_
 rw [hj]at F
 exact tail_any D.at_.typeIs' slot_dict_getitem.lookup (zhE D.at_ F (by simpa using he) a.u9 λ t=>⟨g,μ,.rfl,zag r _,z,vr,q⟩) (hs _ _)
theorem P2.inD {k:Id}{es:List (K × V)}{key:K}{Q:V->Mem->Prop}(hk:μ k=some (kd.mo es))(q:Q (.bool (aget es key).isSome) μ):P2 X (l+1) R env ρ μ (compareOp .In) (kd.key key) (.ref k) Q:=by
 intro g v u h1 h2 A s a r
 refine E42 (r.dictAt hk h2) λ d o rs n q9 D=>?_;subst q9
 refine zks D.at_ (D.df r h1) D.sys D.lt a.u9 λ t=>⟨g,μ,.rfl,zag r _,.bool _,rfl,?_⟩
 rw [zdD];exact q
theorem P2.notinD {k:Id}{es:List (K × V)}{key:K}{Q:V->Mem->Prop}(hk:μ k=some (kd.mo es))(q:Q (.bool !(aget es key).isSome) μ):P2 X (l+1) R env ρ μ (compareOp .NotIn) (kd.key key) (.ref k) Q:=by
 intro g v u h1 h2 A s a r
 refine E42 (r.dictAt hk h2) λ d o rs n q9 D=>?_;subst q9
 refine zjc D.at_ (D.df r h1) D.sys D.lt a.u9 λ t=>⟨g,μ,.rfl,zag r _,.bool _,rfl,?_⟩
 rw [zdD];exact q
theorem DHere.size {k:Id}{es:List (K × V)}{a:Nat}{o:Obj}{rs:Array DictEntry}{n:Nat}(D:DHere X kd g s k es a o rs n):rs.size=es.length:=by
 have h2:=D.ens.length
 simp only [aE]at h2
 exact h2.symm
theorem SI.dict {k:Id}{es:List (K × V)}{key:K}{v:V}{Q:Mem->Prop}(hk:μ k=some (kd.mo es))(hz:es.length<=sizeLine)(q:Q (μ.set k (kd.mo (aput es key v)))):SI X (l+1) R env ρ μ (.ref k) (kd.key key) v Q:=by
 intro g xv iv vv h1 h2 h3 A s a r
 refine E42 (r.dictAt hk h1) λ d o rs n q9 D=>?_;subst q9
 exact zhm D.at_ (D.df r h2) (by rw [D.size];exact hz) a.u9 λ h' t hn=>⟨g,_,.rfl,r.setDict D hn (zb4 D.nd) (D.put (kv:=v) h2 h3),q⟩
theorem vr3 {vs:List Value}{x y z:V}(h:VRs g [x,y,z] vs):∃ v u w,vs=[v,u,w]/\VR g x v/\VR g y u/\VR g z w:=by
 refine E23 (h.inv) λ v _ q9 a h2=>?_;subst q9
 refine E23 (vr2 h2) λ u w e b c=>?_
 exact⟨v,u,w,cw _ e,a,b,c⟩
theorem CV.setdefault {k:Id}{es:List (K × V)}{key:K}{v:V}{Q:V->Mem->Prop}(hk:μ k=some (kd.mo es))(hz:es.length<=sizeLine)(q1:∀ z,aget es key=some z->Q z μ)(q2:aget es key=none->Q v (μ.set k (kd.mo (aput es key v)))) :
  CV X (l+1) R env ρ μ (.builtin "dict.setdefault") [.ref k,kd.key key,v] Q:=by
 intro g vs hv A s a r
 refine E34 (vr3 hv) λ xv iv vv q9 h1 h2 h3=>?_;subst q9
 refine E42 (r.dictAt hk h1) λ d o rs n q9 D=>?_;subst q9
 refine zeQ D.at_ (D.df r h2) D.sys D.lt (by rw [D.size];exact hz) a.u9 (λ j e t hj he=>?_) λ hi h' t hn=>?_
 ·refine E12 (za3 hj) λ z hz' hz2=>?_
  refine E14 (D.ens.at_ hz') λ e' he' _ _ vr=>?_
  rw [Array.getElem?_toList,he]at he'
  cases he'
  exact⟨g,μ,.rfl,zag r _,z,vr,q1 z hz2⟩
 ·have he:=D.put (kv:=v) h2 h3
  rw [hi]at he
  exact⟨g,_,.rfl,r.setDict D hn (zb4 D.nd) he,v,h3,q2 (zco hi).2⟩
theorem CV.get2 {k:Id}{es:List (K × V)}{key:K}{v:V}{Q:V->Mem->Prop}(hk:μ k=some (kd.mo es))(q:Q ((aget es key).getD v) μ):CV X (l+1) R env ρ μ (.builtin "dict.get") [.ref k,kd.key key,v] Q:=by
 intro g vs hv A s a r
 refine E34 (vr3 hv) λ xv iv vv q9 h1 h2 h3=>?_;subst q9
 refine E42 (r.dictAt hk h1) λ d o rs n q9 D=>?_;subst q9
 refine zjU D.at_ (D.df r h2) D.sys a.u9 λ t=>?_
 induction hi:apos es key with
 | none=>rw [(zco hi).2]at q;exact⟨g,μ,.rfl,zag r _,v,h3,q⟩
 | some j =>
  refine E12 (za3 hi) λ z hz' hz2=>?_
  refine E14 (D.ens.at_ hz') λ e' he' _ _ vr=>?_
  rw [Array.getElem?_toList]at he'
  rw [hz2]at q
  refine⟨g,μ,.rfl,zag r _,z,?_,q⟩
  rw [Option.bind_some,he'];exact vr
theorem Ens.delA {P:Params}{hash:K->Int}{is:K->Value->Prop}{es:List (K × V)}{rs:Array DictEntry}(h:Ens P g hash is es rs.toList){key:K}{j:Nat}(hj:apos es key=some j):Ens P g hash is (adel es key) (rs.eraseIdxIfInBounds j).toList:=by
 have h1:=h.del hj
 have h2:=ziv hj
 have h3:=h.length
 simp only [aE]at h3
 unfold Array.eraseIdxIfInBounds
 rw [dif_pos (by simp_all),Array.toList_eraseIdx]
 exact h1
theorem CV.popD {k:Id}{es:List (Int × V)}{key:Int}{z:V}{Q:V->Mem->Prop}(hk:μ k=some (.dI es))(hz:es.length<=sizeLine)(hg:aget es key=some z)(q:Q z (μ.set k (.dI (adel es key)))):CV X (l+1) R env ρ μ (.builtin "dict.pop") [.ref k,.int key] Q:=by
 intro g vs hv A s a r
 refine E23 (vr2 hv) λ xv iv q9 h1 h2=>?_;subst q9
 refine E42 (r.dictAt (kd:=kI) hk h1) λ d o rs n q9 D=>?_;subst q9
 have F:=D.df (kd:=kI) r (key:=key) h2
 obtain⟨j,hj⟩:=zbA hg
 refine E12 (za3 hj) λ z' hz' hz2=>?_
 rw [hg]at hz2;cases hz2
 refine E14 (D.ens.at_ hz') λ e he _ _ vr=>?_
 rw [hj]at F
 refine zkf D.at_ F (by simpa using he) (by obtain⟨t,rfl⟩:=h2;rfl) (by rw [D.size];exact hz) a.u9 λ h' t hn=>?_
 exact⟨g,_,.rfl,r.setDict D hn (zb3 D.nd) (D.ens.delA hj),z,vr,q⟩
theorem XS.delItem {o i:Expr}{p2 pos:Pos}{Q:Fl->Loc->Mem->Prop}(h:W X (l+1) R env ρ μ o λ x dp=>W X (l+1) R env ρ dp i λ y dt=>∃ k es key z,x = .ref k/\y=kd.key key/\dt k=some (kd.mo es)/\es.length<=sizeLine/\aget es key=some z/\Q .next ρ (dt.set k (kd.mo (adel es key)))) :
  XS X (l+1) R env ρ μ (.Delete [.Subscript o i p2] pos) Q:=by
 intro g A s a r
 refine wpAny_Delete (wpAny_deleteEach_cons ?_)
 rw [arm_delete_Subscript]
 refine ag (am (h g A s a r) (λ v dr hh=>?_) λ Y Y e=>e)
 obtain⟨du,dp,dy,dz,x,vx,dw⟩:=hh
 refine ag (aP (am (dw du A dr a dz) (λ u dq hh=>?_) λ Y Y e=>e))
 obtain⟨dC,dt,dB,dv,y,vy,q8⟩:=hh;refine E46 q8 λ k es key z hx hy hk hz hg q=>?_;clear q8
 subst hx hy
 refine E42 (dv.dictAt hk (vx.mono dB)) λ d o rs n q9 D=>?_;subst q9
 have F:=D.df dv vy
 obtain⟨j,hj⟩:=zbA hg
 refine E12 (za3 hj) λ z' hz' hz2=>?_
 refine E14 (D.ens.at_ hz') λ e he _ _ vr=>?_
 rw [hj]at F
 refine ag (cJ (ag (aP (zhZ D.at_ F (by simpa using he) (by rw [D.size];exact hz) a.u9 λ h' t hn=>?_))))
 refine wpAny_release (wpAny_deleteEach_nil ?_)
 exact⟨dC,ρ,_,.next,dy.trans dB,dv.setDict D hn (zb3 D.nd) (D.ens.delA hj),rfl,q⟩
theorem W.dictNil {pos:Pos}{Q:V->Mem->Prop}{i:Id}(hi:μ i=none)(q:Q (.ref i) (μ.set i (kd.mo []))):W X l R env ρ μ (.Dict [] [] pos) Q:=by
 intro g A s a r
 refine wpAny_Dict_empty ?_
 obtain⟨le,r1⟩:=r.newMu (s':={ s with heap:=s.heap.push { cls:=.type "dict",data:=.dict #[] } }) (i:=i) (o:=kd.mo []) (a:=s.heap.objs.size) (d:=s.heap.objs.size) hi ⟨an _,an _⟩ (λ Y Y h=>ay _ h)
  ((kd.muo _ _ _ _ _ _).mpr ⟨rfl,by simp,_,#[],0,aJ _ rfl,⟨rfl,rfl,rfl⟩,rfl,.nil⟩) rfl rfl rfl
 exact⟨_,_,le,r1,.ref i,⟨s.heap.objs.size,s.heap.objs.size,rfl,by simp [Gh.newMu]⟩,q⟩
end
section
variable {X:Ctx}{l:Nat}{R:Nat->Option Obj}{env:Env}{ρ:Loc}{g g':Gh}{μ dl:Mem}{s s':Shared}
noncomputable def VN (n:Nat):V:=.int (n:Int)
theorem P2.eqN {a b:Nat}{Q:V->Mem->Prop}(q:Q (.bool (decide (a=b))) μ):P2 X l R env ρ μ (compareOp .Eq) (VN a) (VN b) Q :=
 P2.eqI (by
  have e:((a:Int) == (b:Int))=decide (a=b):=by rw [bW];simp;exact Int.ofNat_inj
  rw [e];exact q)
theorem P2.neN {a b:Nat}{Q:V->Mem->Prop}(q:Q (.bool (decide (a≠b))) μ):P2 X l R env ρ μ (compareOp .NotEq) (VN a) (VN b) Q :=
 P2.neI (by
  have e:((a:Int) != (b:Int))=decide (a≠b):=by rw [bW];simp;exact nse
  rw [e];exact q)
theorem P2.ltN {a b:Nat}{Q:V->Mem->Prop}(q:Q (.bool (decide (a < b))) μ):P2 X l R env ρ μ (compareOp .Lt) (VN a) (VN b) Q :=
 P2.ltI (by
  have e:decide ((a:Int) < (b:Int))=decide (a < b):=by rw [bW];simp
  rw [e];exact q)
theorem P2.gtN {a b:Nat}{Q:V->Mem->Prop}(q:Q (.bool (decide (b < a))) μ):P2 X l R env ρ μ (compareOp .Gt) (VN a) (VN b) Q :=
 P2.gtI (by
  have e:decide ((b:Int) < (a:Int))=decide (b < a):=by rw [bW];simp
  rw [e];exact q)
theorem P2.addN {a b:Nat}{Q:V->Mem->Prop}(q:Q (VN (a+b)) μ):P2 X l R env ρ μ (binaryOp .Add) (VN a) (VN b) Q :=
 P2.addI (by
  have e:(a:Int)+(b:Int)=((a+b:Nat):Int):=by simp_all
  rw [e];exact q)
theorem P2.subN {a b:Nat}{Q:V->Mem->Prop}(h:b<=a)(q:Q (VN (a - b)) μ):P2 X l R env ρ μ (binaryOp .Sub) (VN a) (VN b) Q :=
 P2.subI (by
  have e:(a:Int) - (b:Int)=((a - b:Nat):Int):=by exact nvj ‹_›
  rw [e];exact q)
theorem P2.itemN {value slice:Expr}{x z:V}{xs:List V}{i:Nat}{Q:V->Mem->Prop}(hx:RdL μ x xs)(h2:i<=1000000)(hz:xs[i]? = some z)(q:Q z μ)
  (hs:∀ a b,subscripted slice false a b=operate [a,b] (getItem a b):=by intros;rfl):P2 X l R env ρ μ (subscriptTail value slice) x (VN i) Q :=
 P2.itemL hx (by simp_all) (by exact nqF (nT ‹_› (by decide))) (by simpa using hz) q hs
theorem P2.itemTN {value slice:Expr}{z:V}{xs:List V}{i:Nat}{Q:V->Mem->Prop}(h2:i<=1000000)(hz:xs[i]? = some z)(q:Q z μ)
  (hs:∀ a b,subscripted slice false a b=operate [a,b] (getItem a b):=by intros;rfl):P2 X l R env ρ μ (subscriptTail value slice) (.tup xs) (VN i) Q :=
 P2.itemT (j:=i) (by simp_all) (by exact nqF (nT ‹_› (by decide))) (by
  have:=(List.getElem?_eq_some_iff.mp hz).1
  unfold seqIndex?
  have h0:¬ ((i:Int) < 0):=by simp_all
  simp only [h0,if_false]
  rw [aB (by simp;assumption)]
  simp) hz q hs
theorem W.cn {n:Nat}{k:Nat}{pos:Pos}{Q:V->Mem->Prop}(h:Q (VN n) μ):W X l R env ρ μ (.Constant (.int n) k pos) Q:=W.cint h
theorem XB.ret {e:Expr}{pos:Pos}{b:List Stmt}{Q:Fl->Loc->Mem->Prop}(h:W X l R env ρ μ e (KR ρ Q)):XB X l R env ρ μ (.Return (some e) pos :: b) Q :=
 XB.cons (XS.ret (h.mono λ x dl q=>⟨λ e=>dead e,λ y e=>by cases e;exact q⟩))
theorem XB.asg {n:Str}{e:Expr}{p pos:Pos}{b:List Stmt}{Q:Fl->Loc->Mem->Prop}(hk:env.kindOf n=some .local∨(env.kindOf n=some .cell/\env.func.isSome=true))
  (h:W X l R env ρ μ e (KN X l R env ρ n b Q)) (hs:pure false=swapsWith e (some (.Name n p)) pos.line env:=by exact rfl):XB X l R env ρ μ (.Assign [.Name n p] e pos :: b) Q :=
 bJ (XS.assignName hk (h.mono λ x dl q9=>by obtain⟨dm,u,q⟩:=q9;exact⟨dm,u,rfl,q⟩) hs)
theorem XB.ex {e:Expr}{pos:Pos}{b:List Stmt}{Q:Fl->Loc->Mem->Prop}(h:W X l R env ρ μ e (KX X l R env ρ b Q))(h1:false=interactive env:=by exact rfl)(h2:pure false=swapsWith e none pos.line env:=by exact rfl):XB X l R env ρ μ (.Expr e pos :: b) Q :=
 bJ (XS.expr (h.mono λ x dl q=>⟨rfl,q⟩) h1 h2)
noncomputable abbrev K2s (X:Ctx)(l:Nat)(R:Nat->Option Obj)(env:Env)(ρ:Loc)(i:Expr)(v:V)(b:List Stmt)(Q:Fl->Loc->Mem->Prop):V->Mem->Prop:=λ x dt=>W X l R env ρ dt i λ y dK=>SI X l R env ρ dK x y v λ ew=>XB X l R env ρ ew b Q
noncomputable abbrev KSa (X:Ctx)(l:Nat)(R:Nat->Option Obj)(env:Env)(ρ:Loc)(o:Expr)(attr:Str)(b:List Stmt)(Q:Fl->Loc->Mem->Prop):V->Mem->Prop:=λ v dp=>W X l R env ρ dp o λ x dt=>SA X l R env ρ dt x attr v λ dK=>XB X l R env ρ dK b Q
noncomputable abbrev KSi (X:Ctx)(l:Nat)(R:Nat->Option Obj)(env:Env)(ρ:Loc)(o i:Expr)(b:List Stmt)(Q:Fl->Loc->Mem->Prop):V->Mem->Prop:=λ v dp=>W X l R env ρ dp o (K2s X l R env ρ i v b Q)
theorem XB.setA {o value:Expr}{attr:Str}{p pos:Pos}{b:List Stmt}{Q:Fl->Loc->Mem->Prop}(h:W X l R env ρ μ value (KSa X l R env ρ o attr b Q))
  (hs:pure false=swapsWith value (some (.Attribute o attr p)) pos.line env:=by exact rfl):XB X l R env ρ μ (.Assign [.Attribute o attr p] value pos :: b) Q :=
 bJ (XS.setAttr (h.mono λ v dp h1=>h1.mono λ x dt h2=>λ g xv vv h3 h4=>(h2 g xv vv h3 h4).mono λ Y Y Y Y q=>⟨rfl,q⟩) hs)
theorem XB.setI {o i value:Expr}{p pos:Pos}{b:List Stmt}{Q:Fl->Loc->Mem->Prop}(h:W X l R env ρ μ value (KSi X l R env ρ o i b Q))
  (hs:pure false=swapsWith value (some (.Subscript o i p)) pos.line env:=by exact rfl):XB X l R env ρ μ (.Assign [.Subscript o i p] value pos :: b) Q :=
 bJ (XS.setItem (h.mono λ v dp h1=>h1.mono λ x dt h2=>h2.mono λ y dK h3=>λ g xv iv vv e1 e2 e3=>(h3 g xv iv vv e1 e2 e3).mono λ Y Y Y Y q=>⟨rfl,q⟩) hs)
theorem XB.if_ {t:Expr}{b o rest:List Stmt}{pos:Pos}{Q:Fl->Loc->Mem->Prop}(h:WB X l R env ρ μ t (KI X l R env ρ b o (Thn X l R env rest Q))):XB X l R env ρ μ (.If t b o pos :: rest) Q :=
 XB.cons (XS.if_ h)
theorem XB.go {rest:List Stmt}{Q:Fl->Loc->Mem->Prop}(h:XB X l R env ρ μ rest Q):XB X l R env ρ μ [] (Thn X l R env rest Q) :=
 cg ⟨λ Y=>h,λ x e=>dead e⟩
theorem W.sliceT {e:Expr}{lower:Option Expr}{p pos:Pos}{Q:V->Mem->Prop}
  (h:W X l R env ρ μ e λ x dp=>WP X l R env ρ dp lower λ lo dt=>∃ xs a,x = .tup xs/\lo=some ((a:Nat):Int)/\1<=a/\a<=xs.length/\xs.length<=sizeLine/\Q (.tup (xs.drop a)) dt) :
  W X l R env ρ μ (.Subscript e (.Slice lower none none p) pos) Q:=by
 intro g A s a r
 refine Subscript_ (am (h g A s a r) (λ v dr hh=>?_) λ Y Y e=>e)
 obtain⟨du,dp,dy,dz,x,vx,dw⟩:=hh
 refine wpAny_Slice ?_
 refine am (dw du A dr a dz) (λ vl dq hh=>?_) λ Y Y e=>e
 obtain⟨dC,dt,dB,dv,lo,pl,q8⟩:=hh;refine E26 q8 λ xs n hx hlo h1 h2 hz q=>?_;clear q8
 subst hx hlo
 cases pl with
 | int _ t =>
 refine am (ai (Q:=λ v s'=>dq=s'/\v = .none) ⟨rfl,rfl⟩) (λ v s' hh=>?_) λ Y Y e=>e
 obtain⟨e2,e1⟩:=hh
 subst e1
 subst e2
 refine ai ?_
 refine E23 (dv.tup (vx.mono dB)) λ b items q9 hl hv=>?_;subst q9
 have e:=hv.length
 simp only [aE]at e
 have dS:=dv.push { cls:=.type "slice",data:=.fields #[.int (n:Nat) t,.none,.none] }
 obtain⟨ey,d9,v₄⟩:=dS.newTup (hv.drop n) (n:=none)
 refine tail_any (IsTup.typeIs (s:={ dq with heap:=dq.heap.push { cls:=.type "slice",data:=.fields #[.int (n:Nat) t,.none,.none] } }) (hl.push _)) slot_tuple_getitem.lookup
  (getItem_tuple_from (hl.push _) (Heap.IsSliceOf.new ..) h1 (by simp_all) ⟨_,_,(dy.trans dB).trans ey,d9,_,v₄,q⟩ (by simp_all)) (ops:=[.ref dq.heap.objs.size,.ref b]) (by rfl)
theorem WB.chain2 {d7 dY eV:Expr}{eY eW:CmpOp}{pos:Pos}{Q:Bool->Mem->Prop}
  (h:W X l R env ρ μ d7 λ x dp=>W X l R env ρ dp dY λ y dt=>P2 X l R env ρ dt (compareOp eY) x y λ z dK=>∃ b,z = .bool b/\(b=false->Q false dK)/\(b=true->W X l R env ρ dK eV λ u ew=>P2 X l R env ρ ew (compareOp eW) y u λ z' fh=>PB X l R env ρ fh z' Q))
  (hm:lastMarks [eY,eW] [dY,eV]=false:=by with_unfolding_all rfl) (he:evalEach ([]:List Expr) env=[]:=by rfl):WB X l R env ρ μ (.Compare d7 [eY,eW] [dY,eV] pos) Q:=by
 intro g A s a r
 refine isTrue_chain (am (h g A s a r) (λ v dr hh=>?_) λ Y Y e=>e) hm
 obtain⟨du,dp,dy,dz,x,vx,dw⟩:=hh
 rw [he]
 show wpAny _ _ (do
  let rv <- PySem.holding [v] (eval dY env)
  standAt pos
  let c <- PySem.holding [v,rv] (compareOp eY v rv)
  PySem.release [v,rv] [c]
  if <- PySem.holding [c,rv] (truthy c)then testChain pos rv [eW] [eval eV env]else pure false) _ _ _
 refine ag (aP (am (dw du A dr a dz) (λ u dq hh=>?_) λ Y Y e=>e))
 obtain⟨dC,dt,dB,dv,y,vy,dJ⟩:=hh
 refine ag (cJ (ag (aP (am (dJ dC v u (vx.mono dB) vy A dq a dv) (λ c d6 hh=>?_) λ Y Y e=>e))))
 obtain⟨d8,dK,dU,dS,z,vz,q8⟩:=hh;refine E13 q8 λ b hz q1 q2=>?_;clear q8
 subst hz
 cases vz
 refine ag (wpAny_release (ag (aP (wpAny_truthy_bool ?_))))
 induction b with
 | false=>refine bm rfl ?_;exact ai ⟨d8,dK,(dy.trans dB).trans dU,dS,q1 rfl⟩
 | true =>
  refine wpAny_ite_true rfl ?_
  show wpAny _ _ (do
   let rv <- PySem.holding [u] (eval eV env)
   standAt pos
   let c <- PySem.operate [u,rv] (compareOp eW u rv)
   PySem.holding [c] (truthy c)) _ _ _
  refine ag (aP (am (q2 rfl d8 A d6 a dS) (λ w fg hh=>?_) λ Y Y e=>e))
  obtain⟨eK,ew,ey,d9,y',vy',ed⟩:=hh
  refine ag (cJ (ag (wpAny_operate' (am (ed eK u w (vy.mono (dU.trans ey)) vy' A fg a d9) (λ c s₅ hh=>?_) λ Y Y e=>e))))
  obtain⟨g₅,fh,fE,eG,z',vz',h₅⟩:=hh
  exact aP (am (h₅ g₅ c vz' A s₅ a eG) (λ Y Y hh=>hh.up ((((dy.trans dB).trans dU).trans ey).trans fE)) λ Y Y e=>e)
noncomputable def signsV (x:Str):List V:=x.cps.toList.map λ c=>V.str ⟨#[c]⟩
theorem IT.str {x:Str}:IT X l R env ρ μ (.str x) (signsV x) (λ Y=>True) (λ Y=>True):=by
 rintro g v A s ⟨t,rfl⟩ ao r hx
 refine wpAny_pyIter_strU ?_
 have hty:strIterType x = "str_ascii_iterator" ∨ strIterType x = "str_iterator":=by unfold strIterType;split;exact .inl rfl;exact .inr rfl
 have hgo:∀ {A:Around} {E:Value->Shared->Prop} {s:Shared} {target:Expr} {it:Nat} {c:Str} {u:Tok} {Q:Unit->Shared->Prop},Q () s->wpAny (model X.prog X.w) A (letOwnedTupleGo target (.ref it) (.str c u)) Q E s:=λ {A E s target it c u Q} h=>by
  cases target <;> exact ai h
 have W:∀ (A':Around),A'.handled=none->Walks X.prog X.w A' s.heap.objs.size [s.heap.objs.size] [s.heap.objs.size] x.cps.size (SignAt x) (λ i h=>h.IsStrIter s.heap.objs.size (strIterType x) x t i):=λ A' hA=>by
  rcases hty with e | e <;> rw [e]
  ·exact Walks.strAscii hA _ x t
  ·exact Walks.strWide hA _ x t
 refine⟨s.heap.objs.size,[s.heap.objs.size],λ h i=>h.IsStrIter s.heap.objs.size (strIterType x) x t i,λ Y=>True,g,rfl,.rfl,r.push _,⟨λ Y Y Y Y=>trivial,λ h h' i k q9=>by obtain⟨o,ho,rr⟩:=q9;exact⟨o,(k _ (.head _)).trans ho,rr⟩,λ h i ⟨o,ho,_⟩ c hc=>by cases List.mem_singleton.mp hc;exact⟨o,ho⟩,?_,?_,?_⟩,trivial,λ c hc=>by cases List.mem_singleton.mp hc;exact .newest r (an _) (zaM r),⟨_,aJ _ rfl,rfl,rfl⟩⟩
 ·intro R env ρ g μ dr A l i z target _ ao r _ _ f st hz
  have hi:i < x.cps.size:=by have:=(List.getElem?_eq_some_iff.mp hz).1;simpa [signsV] using this
  refine(W A ao.handled).item i dr _ _ hi st λ v h' tk ⟨c,u,hc,hv⟩ st' k=>?_
  subst hv
  refine⟨_,rfl,hgo ?_⟩
  have e:z = .str ⟨#[c]⟩:=by
   unfold signsV at hz
   rw [aD,Array.getElem?_toList,hc]at hz
   cases hz;rfl
  exact⟨g,.rfl,r.buts f k rfl rfl rfl,by rw [e];exact⟨u,rfl⟩,st',f⟩
 ·intro R env ρ g μ dr A l i ao r _ _ f st hz
  obtain rfl:i=x.cps.size:=by rw [hz];simp [signsV]
  exact(W A ao.handled).done dr _ _ st λ h' tk k=>⟨rfl,r.buts f k rfl rfl rfl⟩
 ·intro A dr i Q st h
  rcases hty with e | e
  ·rw [e]at st;exact wpAny_pyIter_striter_ascii st h
  ·rw [e]at st;exact wpAny_pyIter_striter_wide st h
end
abbrev bX:=@P2.itemN
abbrev bZ:=@XB.ret
abbrev cO:=@XB.ex
abbrev cT:=@W.cn
abbrev cU:=@XB.setA
abbrev cZ:=@XB.if_
abbrev db:=@XB.asg
abbrev di:=@XB.go
section
variable {X:Ctx}{l:Nat}{R:Nat->Option Obj}{env:Env}{ρ:Loc}{g g':Gh}{μ dl:Mem}{s s':Shared}
noncomputable def XAt (X:Ctx)(l:Nat)(R:Nat->Option Obj)(env:Env)(ρ:Loc)(μ:Mem)(body:List Stmt)(t:Sem Flow)(Q:Fl->Loc->Mem->Prop):Prop :=
 ∀ g A s,AOk X A l->Rep X R env ρ g μ s->_root_.PySem.wpAt (model X.prog X.w) A (.func body env) t (SPst X R env g Q) (λ Y Y=>False) s
noncomputable def WAt (X:Ctx)(l:Nat)(R:Nat->Option Obj)(env:Env)(ρ:Loc)(μ:Mem)(body:List Stmt)(e:Expr)(Q:V->Mem->Prop):Prop :=
 ∀ g A s,AOk X A l->Rep X R env ρ g μ s->_root_.PySem.wpAt (model X.prog X.w) A (.func body env) (eval e env) (TPst X R env ρ g (VPst Q)) (λ Y Y=>False) s
theorem XAt.any {body b:List Stmt}{Q:Fl->Loc->Mem->Prop}(h:XB X l R env ρ μ b Q):XAt X l R env ρ μ body (execs b env) Q:=λ g A s a r=>wpAt_of_wpAny (h g A s a r)
theorem XAt.step {body:List Stmt}{st:Stmt}{b:List Stmt}{Q:Fl->Loc->Mem->Prop}(h:XS X l R env ρ μ st λ fl dm dl=>fl = .next/\XAt X l R env dm dl body (execs b env) Q):XAt X l R env ρ μ body (execs (st :: b) env) Q:=λ g A s a r=>by
 refine ks_wpAt_execs_cons (wpAt_of_wpAny (am (h g A s a r) (λ f s' hh=>?_) λ Y Y e=>e))
 obtain⟨g',dm,dl,fl,le,r',hf,e,q⟩:=hh
 subst e
 cases hf
 exact ks_wpAt_mono (q g' A s' a r') (λ Y Y hh=>hh.up le) λ Y Y e=>e
theorem XAt.ex {body:List Stmt}{e:Expr}{pos:Pos}{b:List Stmt}{Q:Fl->Loc->Mem->Prop}(h:WAt X l R env ρ μ body e λ Y dl=>XAt X l R env ρ dl body (execs b env) Q)(h1:false=interactive env:=by exact rfl)(h2:pure false=swapsWith e none pos.line env:=by exact rfl) :
  XAt X l R env ρ μ body (execs (.Expr e pos :: b) env) Q:=λ g A s a r=>by
 refine ks_wpAt_execs_cons (ks_wpAt_Expr_any (ks_wpAt_mono (h g A s a r) (λ v s' hh=>?_) λ Y Y e=>e) h1.symm h2.symm)
 obtain⟨g',dl,le,r',x,vr,q⟩:=hh
 exact ks_wpAt_mono (q g' A s' a r') (λ Y Y hh=>hh.up le) λ Y Y e=>e
theorem XAt.ret {body:List Stmt}{e:Expr}{pos:Pos}{b:List Stmt}{Q:Fl->Loc->Mem->Prop}(h:WAt X l R env ρ μ body e λ x dl=>Q (.ret x) ρ dl):XAt X l R env ρ μ body (execs (.Return (some e) pos :: b) env) Q:=λ g A s a r =>
 ks_wpAt_execs_cons (ks_wpAt_Return_some (ks_wpAt_mono (h g A s a r) (λ v s' q9=>by obtain⟨g',dl,le,r',x,vr,q⟩:=q9;exact⟨g',ρ,dl,.ret x,le,r',⟨v,rfl,vr⟩,q⟩) λ Y Y e=>e))
theorem Cs.plainAt {fd:FuncData}{body:List Stmt}{ps:List Str}{args:List V}{f:Nat}{Q:V->Mem->Prop}(hf:fnLook X.K f=some fd)(hb:fd.body = .stmts body)(ok:plainB X.K fd ps=true)
  (bind:∀ vs:List Value,vs.length=ps.length->bindArgs fd ⟨vs,[]⟩=pure (ps.zip vs)) (nd:ps.Nodup) (hl:args.length=ps.length)
  (h:∀ R L,XAt X l R (callEnv fd L f) (ps.zip args) μ body (execs body (callEnv fd L f)) (Post Q)):Cs X (l+1) (.ref f) args μ Q:=by
 intro R env ρ g vs hvs A s a r
 refine E12 (zcn hf) λ o ho hdata=>?_
 have P:=zf6 ok
 have hlen:vs.length=ps.length:=hvs.length▸hl
 refine ks_codeAny_call_defAt a.room (r.kin _ _ ho) hdata r.top.nolimit (codeRec_of r.kin P.code) hb (BindsTo.of_eq (bind vs hlen)) P.noCell (P.binds hlen) (λ dw hns hk=>?_) P.co P.gen P.kind
 exact ks_wpAt_mono (h _ _ g _ _ a.deeper (r.enter P hvs nd hl hns hk)) (λ fl s' hh=>hh.back r) λ Y Y e=>e.elim
structure SuperOk (X:Ctx)(f cda cc C D f2:Nat)(name:Str)(scope:Scope):Prop where
 fd:∃ oc od fd osl ar,X.K.lookup f=some ⟨oc,od,.func fd,osl⟩/\(fd.params.posonlyargs ++ fd.params.args).head? = some ar/\ar.arg=("self":Str)
 code:∃ ccl cdd vs ccs file tf,X.K.lookup cda=some ⟨ccl,cdd,.fields vs,ccs⟩/\vs[2]? = some (.str file tf)/\((X.prog.main.file:Str) == file)=true
 cell:∃ cl cld csl,X.K.lookup cc=some ⟨cl,cld,.cell (some (.ref D)),csl⟩
 cls:∃ cdD,clsIn X.K D=some cdD
 sub:mroIn X.K C (.ref D)=some true
 super:nsIn X.K mainGlobals "super" = some none
 at_:(name == ("__class__":Str))=false
 ks:scope.names.lookup ("super":Str)=some .globalImplicit
 kc:scope.names.lookup ("__class__":Str)=some .free
 ka:scope.names.lookup ("self":Str)=some .local
 kind:scope.kind = .function
 top:(X.prog.main.scope.names.lookup ("super":Str)).isSome=false
 third:nsIn X.K cStatics "thirdparty.any" = some none
 meth:ks_superIn X.K C D name=some (some (.ref f2))
 fn:typeIn X.K (.ref f2)=some (.type "function")
 fn2:fnIn X.K f2=true
theorem zeP {M:Model}{A:Around}{E:Value->Shared->Prop}{s:Shared}{f:Value}{Q':Args->Shared->Prop}(h:wpAny M A (spliced []) (λ vs s'=>Q' ⟨vs,[]⟩ s') E s):wpAny M A (evalArgs f true [] []) Q' E s:=by
 unfold evalArgs
 show wpAny _ A (spliced [] >>= _) Q' _ s
 refine ag (am h (λ vs s' h'=>?_) λ Y Y x=>x)
 first
  | exact ag (ai (aP (ag (ai (ag (ai (ai h')))))))
  | exact aP (ag (ai (ag (ai (ai h')))))
theorem zhD:bootBuiltins "super" = some (.type "super"):=by decide +kernel
theorem WAt.super {body:List Stmt}{p0 p1 apos pos:Pos}{qn:Str}{scope:Scope}{L f cda cc C D f2:Nat}{name:Str}{args:List Expr}{k:Id}{fs:List (Str × V)}{Q:V->Mem->Prop}{pl:Sem Bool}(hE:env=ksEnv qn scope L f (.ref cda) cc)(S:SuperOk X f cda cc C D f2 name scope)
  (hs:Lk ρ "self" (.ref k)) (hk:μ k=some (.inst C fs)) (h:∀ R',WL X l R' env ρ μ args λ xs dt=>Cs X l (.ref f2) (.ref k :: xs) dt Q)
  (hp:true=noStar args:=by exact rfl)
  (he:eval (.Call (.Attribute (.Call (.Name "super" p0) [] [] p1) name apos) args [] pos) env=(do
   let ov <- attributeBase (.Call (.Name "super" p0) [] [] p1) name env (eval (.Call (.Name "super" p0) [] [] p1) env)
   standAt apos.atName
   let (f,first) <- PySem.holding [ov] (getMethod ov name pl)
   PySem.callWith pos f first (backTo pos (starEach args env)) []):=by rfl) :
  WAt X l R env ρ μ body (.Call (.Attribute (.Call (.Name "super" p0) [] [] p1) name apos) args [] pos) Q:=by
 intro g A s a r
 refine E12 (r.fr.vals _ hs.mem) λ val y vr=>?_
 refine E45 (r.inst hk) λ x dx es n hg h1 nd I h4=>?_
 revert y
 apply refE vr hg
 intro y
 refine E53 (S.fd) λ oc od fd osl ar f1 f2' f3=>?_
 refine E63 (S.code) λ ccl cdd vs ccs file tf c1 c2 c3=>?_
 refine E31 (S.cell) λ cl cld csl c4=>?_
 obtain⟨cdD,c5⟩:=S.cls
 have hloc:∃ m,s.heap.Ns env.locals m/\m ("self":Str)=some (.ref x):=by
  rcases y with ⟨_,m,hm,e⟩ | ⟨e,_⟩
  ·exact⟨m,hm,e⟩
  ·have q:env.kindOf ("self":Str)=some .local:=by rw [hE];exact S.ka
   rw [q]at e
   rcases e with e | e <;> exact absurd e (by decide)
 refine E12 (hloc) λ m hm hself=>?_
 have F:Fr X.base env.locals s.heap m:=⟨hm,r.base,r.above⟩
 have hL:env.locals=L:=by rw [hE]
 refine ks_wpAt_MethodCall (pl:=pl) ?_ he
 have key:=ks_node (prog:=X.prog) (w:=X.w) (A:=A) (E:=λ Y Y=>False) (s:=s) (L:=L) (body:=body) (q:=qn) (scope:=scope) (p0:=p0) (p1:=p1) (attr:=name) (whole:=eval (.Call (.Name "super" p0) [] [] p1) env)
  (Q:=λ ov dr=>wpAny (model X.prog X.w) A (getMethod ov name pl) (λ fx dq=>wpAny (model X.prog X.w) A (PySem.callWith pos fx.1 fx.2 (backTo pos (starEach args env)) []) (TPst X R env ρ g (VPst Q)) (λ Y Y=>False) dq) (λ Y Y=>False) dr)
  (hL▸F) X.kin (zam (skip:=λ Y=>false)) X.topF f1 f2' (f3▸hself) I c1 c2 c3 c4 c5 S.sub S.super S.at_ S.ks S.kc (f3▸S.ka) S.kind S.top zhD ?_
 ·rw [hE]at key ⊢
  exact key
 ·intro so h' F' N' hlt
  rw [<- hL]at F' N'
  have r1:Rep X R env ρ g μ { s with heap:=h' }:=r.fromNews (pre:=[_]) F F' N'
  refine E45 (r1.inst hk) λ x1 x2 es1 n1 e1 h11 nd1 I1 h41=>?_
  rw [hg]at e1;cases e1
  refine ks_method F' X.kin N' (.head _) I1 S.third S.meth S.fn S.at_ λ q h2 F2 N2 hlt2=>?_
  have N2':News X.base env.locals h2 ([(q,methodObj (.ref f2) (.ref x)),(so,ks_superObj D x C)] ++ newsOf X.base s.heap env.locals λ Y=>false):=N2
  have r2:Rep X R env ρ g μ { s with heap:=h2,toks:=s.toks+1 }:=r.fromNews F F2 N2'
  obtain⟨q1,q2,q3⟩:=N2 _ (.head _)
  have gone:s.heap.get? q=none:=by
   induction e:s.heap.get? q with
   | none=>rfl
   | some o=>exact absurd (hlt2 _ (.tail _ (zaR.mpr ⟨q2,rfl,q3,e⟩))) (bj q)
  have fq:Fre R env g q:=.gone r gone q2
  have one:∀ b∈[q],b=q:=λ b hb=>List.mem_singleton.mp hb
  have hasq:∀ b∈[q],∃ o,h2.get? b=some o:=λ b hb=>by rw [one b hb];exact⟨_,q1⟩
  have r3:=r2.reserve (its:=[q]) (λ b hb=>by rw [one b hb];exact fq) hasq
  have fin:∀ (vs:List Value) (dr:Shared),TPst X (Internal.reserve R h2 [q]) env ρ g (VsPst λ xs dt=>Cs X l (.ref f2) (.ref k :: xs) dt Q) vs dr ->
    MethP X.K q f2 (.ref x) dr.heap/\wpAny (model X.prog X.w) A (call (.ref q) ([] ++ vs)) (TPst X R env ρ g (VPst Q)) (λ Y Y=>False) dr:=λ vs dr hh=>by
   obtain⟨du,dp,dy,d9,xs,vx,hc⟩:=hh
   obtain⟨r5,ho5,_⟩:=d9.unreserve hasq (λ b hb=>by rw [one b hb];exact fq.R) r2.baseR r2.fr.free λ b hb=>by rw [one b hb];exact fq.own
   have hq:dr.heap.get? q=some (methodObj (.ref f2) (.ref x)):=(ho5 q (.head _)).trans q1
   refine⟨⟨hq,r5.kin⟩,wpAny_call (method_call hq (codeAny_mono (hc R env ρ du (.ref x :: vs) (.cons ⟨x,dx,rfl,dy.2 _ _ hg⟩ vx) A dr a r5) λ res dq hr=>?_))⟩
   cases res with
   | error e=>exact hr.elim
   | ok fl=>cases fl with
    | ret v =>
     obtain⟨g',dl,le,r',q⟩:=hr
     exact⟨g',dl,dy.trans le,r',q⟩
    | _=>exact hr.elim
  induction args with
  | nil =>
   exact callWith_of (P:=MethP X.K q f2 (.ref x)) rfl (keeps_M S.fn2) (zeP (am (h (Internal.reserve R h2 [q]) g pos A _ a r3) (λ vs dr q=>fin vs dr q) λ Y Y e=>e))
  | cons e rest =>
   obtain⟨he,hpl⟩:=zit (env:=env) hp
   exact callWith_M X.kin N2 (.head _) S.fn2 (am (h (Internal.reserve R h2 [q]) g pos A _ a r3) (λ vs dr q=>fin vs dr q) λ Y Y e=>e) he (hpl pos)
end
section
variable {prog:Program}{w:World}{A:Around}{E:Value->Shared->Prop}
noncomputable def byText (w:World):Bool:=w.params.followText "set-order"
theorem zh2 {l S I:Nat}{items:Array Value}(J:Nat->Heap->Prop)(hSl:S≠l)(hSI:S≠I)(hIl:l≠I)(hh:A.handled=none)(hu:A.units+1 < cLine)
  (hJ:∀ i h h',J i h->(∀ b o,b≠I->h.get? b=some o->h'.get? b=some o)->J i h')
  (add:∀ (A:Around) (E:Value->Shared->Prop),A.units < cLine->∀ (i:Nat) (v:Value) (s:Shared) (Q:Bool->Shared->Prop),items[i]? = some v->J i s.heap->(∀ b h' t,Heap.SameBut S s.heap h'->J (i+1) h'->Q b { s with heap:=h',toks:=t })->wpAny (model prog w) A (setAdd S v) Q E s)
  {R:Result->Shared->Prop}:∀ (k i:Nat) (s:Shared),items.size - i=k->i<=items.size->s.heap.IsListIter I l i->s.heap.IsList l items->J i s.heap ->
   (∀ h' t,(∀ b o,b≠S->b≠I->s.heap.get? b=some o->h'.get? b=some o)->J items.size h'->R (.ok (.ret .none)) { s with heap:=h',toks:=t }) ->
   codeAny (model prog w) A (.builtin "set.update.loop" ⟨[.ref S,.ref I],[]⟩) R s:=by
 intro k
 induction k with
 | zero =>
  intro i s hk hi hit hl hj hR
  obtain rfl:i=items.size:=bV hi (Nat.le_of_sub_eq_zero hk)
  refine codeAny_builtin F.entry_set_update_loop ?_
  rw [Around.under_plainId F.plain_set_update_loop _]
  show wpAny _ A.in1 (pyNext (.ref I) >>= _) _ _ s
  refine ag (wpAny_pyNext_list_end hh hit hl (by simp) λ h' he=>?_)
  show wpAny _ A.in1 (ret Value.none) _ _ _
  exact ai (hR h' s.toks (λ b o Y hb e=>he b o hb e) (hJ _ _ _ hj λ b o hb e=>he b o hb e))
 | succ k ih =>
  intro i s hk hi hit hl hj hR
  have hlt:i < items.size:=Nat.lt_of_sub_eq_succ hk
  refine codeAny_builtin F.entry_set_update_loop ?_
  rw [Around.under_plainId F.plain_set_update_loop _]
  show wpAny _ A.in1 (pyNext (.ref I) >>= _) _ _ s
  refine ag (wpAny_pyNext_list_item hit hl (x:=items[i]) (by simp [hlt]) λ dw eT eF=>?_)
  show wpAny _ A.in1 (holding [items[i]] (setAdd S items[i]) >>= _) _ _ _
  refine ag (aP (add _ _ hu i items[i] _ _ (by simp [hlt]) (hJ _ _ _ hj λ b o hb e=>(eF.2 b hb).trans e) λ b dJ t eU fF=>?_))
  refine ai ⟨plainId_quiet F.plain_set_update_loop _,ih (i+1) _ (cw Nat.pred hk) hlt ?_ ?_ fF λ h' t k hj'=>hR h' t (λ b o h1 h2 e=>k b o h1 h2 ((eU.2 b h1).trans ((eF.2 b h2).trans e))) hj'⟩
  ·refine E12 (eT) λ o ho rr=>?_;exact⟨o,(eU.2 I (cp hSI)).trans ho,rr⟩
  ·refine E12 (hl) λ o ho rr=>?_;exact⟨o,(eU.2 l (cp hSl)).trans ((eF.2 l hIl).trans ho),rr⟩
theorem zjY (a:Value){s:Shared}{Q₁:Value->Shared->Prop}
  (h:Q₁ (.ref s.heap.objs.size) { s with heap:=s.heap.push { cls:=.type "set",dict:=none,data:=.set #[] 0 (.fresh 0 0 (!byText w)) } }) :
  codeAny (model prog w) A (.call (.builtin "set.__new__") ⟨[.type "set",a],[]⟩) (wants Q₁ E) s:=by
 refine codeAny_of_tree ?_
 show wpAny _ A.in1 (do checkBuiltinCall "set.__new__" ⟨[.type "set",a],[]⟩;again (.builtin "set.__new__" ⟨[.type "set",a],[]⟩)) _ _ s
 refine ag (wpAny_of_eq (PySem.F.newCall_set_1 a) (ai ⟨plainId_quiet PySem.F.plain_set_new _,codeAny_builtin PySem.F.entry_set_new ?_⟩))
 rw [Around.under_plainId PySem.F.plain_set_new _]
 unfold Builtin.«set.__new__» Builtin.Frozenset.newClass
 have hsub:=sub_set_self
 obtain⟨hp,g,d,tk,os⟩:=s
 dsimp only
 wp_walk
 refine wpAny_askSetting (ai ?_)
 dsimp only
 simp only [newObj]
 refine ag (wpAny_alloc (ai ?_))
 exact ai h
set_option maxHeartbeats 8000000 in
theorem zfA {s:Shared}{l:Nat}{items:Array Value}{Q:Value->Shared->Prop}(J:Nat->Heap->Prop)(hh:A.handled=none)(hu:A.units+8 < cLine)(hl:s.heap.IsList l items)
  (hJ:∀ i h h',J i h->(∀ b o,b≠s.heap.objs.size+1->h.get? b=some o->h'.get? b=some o)->J i h') (h0:∀ h,(∀ b o,s.heap.get? b=some o->h.get? b=some o)->h.get? s.heap.objs.size=some { cls:=.type "set",dict:=none,data:=.set #[] 0 (.fresh 0 0 (!byText w)) }->J 0 h)
  (add:∀ (A:Around) (E:Value->Shared->Prop),A.units < cLine->∀ (i:Nat) (v:Value) (s':Shared) (Q:Bool->Shared->Prop),items[i]? = some v->J i s'.heap->(∀ b h' t,Heap.SameBut s.heap.objs.size s'.heap h'->J (i+1) h'->Q b { s' with heap:=h',toks:=t })->wpAny (model prog w) A (setAdd s.heap.objs.size v) Q E s')
  (h:∀ h' t,(∀ b o,s.heap.get? b=some o->h'.get? b=some o)->J items.size h'->Q (.ref s.heap.objs.size) { s with heap:=h',toks:=t }) :
  wpAny (model prog w) A (call (.type "set") [.ref l]) Q E s:=by
 refine E21 (PySem.F.called_set.mro) λ c tl hmro=>?_
 have hmade:=PySem.F.called_set.made
 have hsub:=PySem.F.called_set.sub
 refine wpAny_call (codeAny_of_tree ?_)
 show wpAny _ _ (callAny (.type "set") _) _ _ _
 refine ai ⟨Code.quiet_builtin _ (by decide +kernel),codeAny_builtin PySem.F.entry_type_call ?_⟩
 rw [Around.under_plain (weight_type_call_type "set" [.ref l] []) rfl]
 have h1:=PySem.F.called_set.notType
 have h2:=PySem.F.called_set.canCreate
 have hct:=PySem.F.typeCall_set_1 (.ref l)
 repeat (any_goals (first | assumption | wp_step))
 refine codeAny_mono (zjY (.ref l) (E:=E) (Q₁:=λ obj dr=>obj = .ref s.heap.objs.size/\dr={ s with heap:=s.heap.push { cls:=.type "set",dict:=none,data:=.set #[] 0 (.fresh 0 0 (!byText w)) } }) ⟨rfl,rfl⟩) λ r dr hr=>?_
 cases r with
 | error e=>exact hr
 | ok fl =>
  cases fl with
  | ret obj =>
   obtain⟨rfl,rfl⟩:=hr
   have hS:(s.heap.push { cls:=.type "set",dict:=none,data:=.set #[] 0 (.fresh 0 0 (!byText w)) }).get? s.heap.objs.size=some { cls:=.type "set",dict:=none,data:=.set #[] 0 (.fresh 0 0 (!byText w)) }:=aJ _ rfl
   have hT:Shared.TypeIs { s with heap:=s.heap.push { cls:=.type "set",dict:=none,data:=.set #[] 0 (.fresh 0 0 (!byText w)) } } (.ref s.heap.objs.size) "set":=⟨_,hS,rfl⟩
   have hli:=PySem.F.called_set.init.lookup
   have hbi:=PySem.F.called_set.init.bind (.ref s.heap.objs.size)
   repeat (any_goals (first | assumption | wp_step))
   refine codeAny_mono (codeAny_call_builtin (R:=wants (λ r dq=>r = .none/\∃ h' t,dq={ s with heap:=h',toks:=t }/\J items.size h'/\(∀ b o,s.heap.get? b=some o->h'.get? b=some o)) E) PySem.F.called_set.init.plain PySem.F.entry_set_init (check_set_init_1 hT ?_)) λ dv dq fe=>?_
   ·refine E13 (hl) λ ol hol hcl q7=>?_;obtain⟨nl,hdl⟩:=q7
    obtain⟨ocls,odict,odata,oslots⟩:=ol
    simp only at hcl hdl
    subst hcl;subst hdl
    have hol':(s.heap.push { cls:=.type "set",dict:=none,data:=.set #[] 0 (.fresh 0 0 (!byText w)) }).get? l=some { cls:=.type "list",dict:=odict,data:=.seq items nl,slots:=oslots }:=ay _ hol
    have hsls:=PySem.F.sub_list_set
    have hslf:=PySem.F.sub_list_frozenset
    have hne:(Value.type "list" == Value.type "dict")=false:=by decide
    have hl1:(s.heap.push { cls:=.type "set",dict:=none,data:=.set #[] 0 (.fresh 0 0 (!byText w)) }).IsList l items:=⟨_,hol',rfl,nl,rfl⟩
    unfold Builtin.«set.__init__» noKeywords Builtin.Frozenset.updateFrom
    generalize hPI:pyIter=PI
    wp_walk
    subst hPI
    refine wpAny_pyIter_list hl1 ?_
    refine ag (wpAny_runValue ?_)
    have hlS:l < s.heap.objs.size:=aO hol
    have hh3:A.in1.in1.handled=none:=by simp [hh]
    have hu3:A.in1.in1.units+1 < cLine:=by show A.units+1+1+1 < cLine;lia
    have esz:((s.heap.push { cls:=.type "set",dict:=none,data:=.set #[] 0 (.fresh 0 0 (!byText w)) }).objs.size:Nat)=s.heap.objs.size+1:=Heap.size_push ..
    have n1:(s.heap.objs.size:Nat)≠(s.heap.push { cls:=.type "set",dict:=none,data:=.set #[] 0 (.fresh 0 0 (!byText w)) }).objs.size:=by rw [esz];exact aF (bw _)
    have n2:(l:Nat)≠(s.heap.push { cls:=.type "set",dict:=none,data:=.set #[] 0 (.fresh 0 0 (!byText w)) }).objs.size:=by rw [esz];exact aF (bf hlS)
    refine zh2 J (bu hlS) n1 n2 hh3 hu3 (λ i h h' a b=>hJ i h h' a (by rw [<- esz];exact b)) add (items.size - 0) 0 _ (by simp_all) (bR _) ?it ?ll ?j0 ?rr
    case it=>exact⟨_,aJ _ rfl,rfl,rfl⟩
    case ll=>exact hl1.push _
    case j0=>exact h0 _ (λ b o e=>ay _ (ay _ e)) (ay _ hS)
    intro h' t k hj
    show wpAny _ _ _ _ _ _
    refine ai ?_
    show wpAny _ _ (ret Value.none) _ _ _
    refine ai ⟨rfl,h',t,rfl,hj,λ b o e=>?_⟩
    have hb:=aO e
    refine k b o (aF hb) ?_ (ay _ (ay _ e))
    rw [esz];exact aF (bf hb)
   ·induction dv with
    | error e=>exact fe
    | ok fG =>
     induction fG with
     | ret r =>
      obtain⟨rfl,q8⟩:=fe;refine E23 q8 λ h' tk q9 hj hk'=>?_;clear q8;subst q9
      repeat (any_goals (first | assumption | wp_step))
      exact h _ _ hk' hj
     | _=>exact fe.elim
  | _=>exact hr.elim
end
theorem ze7 {α:Type}{l:List α}{p q:α->Bool}(h:∀ e∈l,p e=q e):l.any p=l.any q:=by
 induction l with
 | nil=>rfl
 | cons x xs ih=>rw [List.any_cons,List.any_cons,h x (.head _),ih λ e he=>h e (.tail _ he)]
noncomputable def blank (e:Int × Value):Int × Value:=(e.1,.none)
noncomputable abbrev SSt:=Array (Int × Value) × SetTable
noncomputable def sAdd (st:SSt)(h:Int):SSt :=
 if st.1.toList.any (λ e=>e.1 == h)then st else
 let L:=layNew st.2 st.1 h .none
 if !L.2.2.1 && L.2.1.tooFull then ((relayAll L.2.1 L.1 (SetTable.grown L.1.size)).1,(relayAll L.2.1 L.1 (SetTable.grown L.1.size)).2.1)else (L.1,L.2.1)
noncomputable def sRun (b:Bool)(ns:List Int):SSt:=ns.foldl sAdd (#[],.fresh 0 0 b)
theorem zfJ (b:Bool)(ns:List Int)(k:Int):sRun b (ns ++ [k])=sAdd (sRun b ns) k:=by simp [sRun]
theorem zdX (es:Array (Int × Value))(p:Nat)(h:Int)(x:Value):SetTable.insertAt (es.map blank) p (h,.none)=(SetTable.insertAt es p (h,x)).map blank:=by
 apply Array.toList_inj.mp
 rw [SetTable.toList_insertAt,Array.toList_map,Array.toList_map,SetTable.toList_insertAt]
 simp [blank]
theorem zf5 (t:SetTable)(es:Array (Int × Value))(h:Int)(x:Value):layNew t (es.map blank) h .none=((layNew t es h x).1.map blank,(layNew t es h x).2):=by
 unfold layNew
 induction t.freeSlot h with
 | none=>simp [blank]
 | some sd =>
  obtain⟨sl,wd⟩:=sd
  dsimp only
  rw [zdX es _ h x]
  simp
theorem zea (t:SetTable)(es:Array (Int × Value))(n:Nat):relayAll t (es.map blank) n=((relayAll t es n).1.map blank,(relayAll t es n).2):=by
 unfold relayAll
 have e:(es.map blank).map (·.1)=es.map (·.1):=by simp [blank,Function.comp_def]
 rw [e]
 induction t.relaid (es.map (·.1)) n with
 | none=>simp
 | some to =>
  obtain⟨t',order⟩:=to
  dsimp only
  have e2:order.filterMap ((es.map blank)[·]?)=(order.filterMap (es[·]?)).map blank:=by
   apply Array.toList_inj.mp
   rw [Array.toList_filterMap,Array.toList_map,Array.toList_filterMap,List.map_filterMap]
   congr 1
   funext i
   simp
  rw [e2,Array.size_map,Array.size_map]
  split <;> rfl
noncomputable def IntEs (l:List (Int × Value)):Prop:=∀ e∈l,(∃ tk,e.2 = .int e.1 tk)/\hashInt e.1=e.1
noncomputable def SJ (a:Nat)(b:Bool)(ns:List Int)(h:Heap):Prop :=
 ∃ es ep t,h.get? a=some { cls:=.type "set",dict:=none,data:=.set es ep t }/\IntEs es.toList/\(es.map blank,t)=sRun b ns/\t.fits es.size=true/\es.size<=ns.length
section
variable {prog:Program}{w:World}{A:Around}{E:Value->Shared->Prop}
theorem IntEs.elems {l:List (Int × Value)}(h:IntEs l):ElemsOf (intKind prog w) l:=λ e he=>by
 obtain⟨⟨tk,e2⟩,hh⟩:=h e he
 exact⟨⟨e.1,by rw [e2];exact intKind_is prog w e.1 tk,hh.symm⟩,by rw [e2];rfl⟩
theorem IntEs.is {l:List (Int × Value)}(h:IntEs l)(k:Int):∀ e∈l,(intKind prog w).is k e.2=(e.1 == k):=λ e he=>by
 obtain⟨⟨tk,e2⟩,hh⟩:=h e he
 rw [e2]
 show Value.isInt k (.int e.1 tk)=_
 simp [Value.isInt]
theorem IntEs.perm {l l':List (Int × Value)}(h:IntEs l)(p:List.Perm l' l):IntEs l':=λ e he=>h e (p.mem_iff.mp he)
theorem IntEs.push {l:List (Int × Value)}(h:IntEs l){k:Int}(hk:hashInt k=k)(tk:Tok):IntEs (l ++ [(k,.int k tk)]):=λ e he=>by
 rcases List.mem_append.mp he with he | he
 ·exact h e he
 ·obtain rfl:=List.mem_singleton.mp he;exact⟨⟨tk,rfl⟩,hk⟩
theorem zbE {a:Nat}{s:Shared}{es es':Array (Int × Value)}{ep:Nat}{t t':SetTable}{Q:Unit->Shared->Prop}
  (ho:s.heap.get? a=some { cls:=.type "set",dict:=none,data:=.set es ep t }) (hz:es'.size<=sizeLine)
  (q:∀ h',Heap.SameBut a s.heap h'->h'.get? a=some { cls:=.type "set",dict:=none,data:=.set es' (ep+1) t' }->Q () { s with heap:=h' }) :
  wpAny (model prog w) A (storeSet a es' t') Q E s:=by
 refine wpAny_storeSet_of ho rfl (q _ (Heap.SameBut.update _ a _) ?_) hz
 have:=Heap.get?_update_self (Obj.putSet es' t') ho (by rw [putSet_of es' t' rfl];rfl)
 rw [putSet_of es' t' rfl]at this
 exact this
set_option tactic.hygienic true in
theorem zhW {a:Nat}{b:Bool}{ns:List Int}{s:Shared}{k:Int}{tk:Tok}{Q:Bool->Shared->Prop}(hj:SJ a b ns s.heap)(hk:hashInt k=k)(hb:ns.length+1 < scanBound)
  (q:∀ b' h' t',Heap.SameBut a s.heap h'->SJ a b (ns ++ [k]) h'->Q b' { s with heap:=h',toks:=t' }):wpAny (model prog w) A (setAdd a (.int k tk)) Q E s:=by
 refine E35 (hj) λ es ep t ho hel hrun hf hz=>?_
 have hkey:(intKind prog w).is k (.int k tk)=true:=intKind_is prog w k tk
 have hsc:(Value.int k tk).scannable=true:=rfl
 have hb0:es.size < scanBound:=by lia
 unfold setAdd
 refine aP (ag ((intKind prog w).pyHash hkey ?_))
 unfold setAddHashed setAddHashedIn
 refine aP (ag (cu (s:={ s with toks:=s.toks+1 }) ho rfl hf ?_))
 dsimp only
 rw [byScan_of hsc hb0 (hel.elems (prog:=prog) (w:=w))]
 refine wpAny_ite_true rfl ?_
 unfold setAddByScan
 refine ag ?_
 refine ag (wpAny_rule ?_)
 refine ag (wpAny_setScan_of (s:={ s with toks:=s.toks+1 }) hkey ho rfl hf (hel.elems (prog:=prog) (w:=w)) ?_)
 have hh:(intKind prog w).hash k=k:=hk
 rw [hh]
 have r1:(sRun b ns).1=es.map blank:=by rw [<- hrun]
 have r2:(sRun b ns).2=t:=by rw [<- hrun]
 have hany:(es.map blank).toList.any (λ e=>e.1 == k)=es.toList.any (λ e=>(intKind prog w).is k e.2):=by
  rw [Array.toList_map,List.any_map]
  exact ze7 λ e he=>(hel.is k e he).symm
 induction hr:List.findIdx? (λ e=>(intKind prog w).is k e.2) es.toList with
 | some j =>
  dsimp only
  refine E12 (List.findIdx?_eq_some_iff_getElem.mp hr) λ hj hpj _=>?_
  refine ai (ai (q _ s.heap _ (Heap.SameBut.refl a s.heap) ⟨es,ep,t,ho,hel,?_,hf,by simp;exact aQ (by assumption)⟩))
  rw [zfJ,<- hrun]
  unfold sAdd
  have:(es.map blank).toList.any (λ e=>e.1 == k)=true:=by rw [hany];exact List.any_eq_true.mpr ⟨_,List.getElem_mem hj,hpj⟩
  rw [aB this]
 | none =>
  dsimp only
  have hno:(es.map blank).toList.any (λ e=>e.1 == k)=false:=by
   rw [hany]
   exact List.any_eq_false.mpr λ e he=>by simpa using List.findIdx?_eq_none_iff.mp hr e he
  have hgw:∀ (b:Bool) {dr:Shared} {Q':Unit->Shared->Prop},Q' () dr->wpAny (model prog w) A (match b with | true=>rule "set.scan.the-table-gave-way" | false=>pure ()) Q' E dr :=
   λ b dr Q' hq=>by cases b <;> first | exact ai hq | exact wpAny_rule hq
  have hperm:=layNew_perm t es k (.int k tk)
  have hfits:=layNew_fits t es k (.int k tk)
  have hbl:=zf5 t es k (.int k tk)
  have hnew:sRun b (ns ++ [k])=sAdd (es.map blank,t) k:=by rw [zfJ,<- hrun]
  unfold sAdd at hnew
  rw [aw (by simpa using hno)]at hnew
  dsimp only at hnew
  rw [hbl]at hnew
  generalize hL:layNew t es k (.int k tk)=L at hperm hfits hbl hnew ⊢
  obtain⟨es1,t1,wd,gave⟩:=L
  dsimp only at hperm hfits hnew ⊢
  rw [Array.toList_push]at hperm
  have hel1:IntEs es1.toList:=(hel.push hk tk).perm hperm
  have hsz1:es1.size=es.size+1:=by rw [<- aE,hperm.length_eq,aC,aE];rfl
  refine ag (hgw _ ?_)
  have hline:es1.size<=sizeLine:=fits_of_scanBound (by lia)
  have tail:wpAny (model prog w) A (do
    storeSet a es1 t1
    if (!wd && t1.tooFull)=true then do
      (match (relayAll t1 es1 (SetTable.grown es1.size)).2.2 with | true=>rule "set.scan.the-table-gave-way" | false=>pure ():Sem Unit)
      storeSet a (relayAll t1 es1 (SetTable.grown es1.size)).1 (relayAll t1 es1 (SetTable.grown es1.size)).2.1
      pure (some true)
     else pure (some true)) (λ r s'=>wpAny (model prog w) A (match r with | some added=>pure added | none=>setAddHashedIn a (.int k tk) k 99999) Q E s') E { s with toks:=s.toks+1 }:=by
   refine ag (zbE (s:={ s with toks:=s.toks+1 }) ho hline λ h1 hs1 ho1=>?_)
   split
   ·rename_i hc
    have hp:=relayAll_perm t1 es1 (SetTable.grown es1.size)
    have hfr:=relayAll_fits t1 es1 (SetTable.grown es1.size)
    have hrb:=zea t1 es1 (SetTable.grown es1.size)
    have hc':(!wd && t1.tooFull)=true:=hc
    rw [aB hc',Array.size_map,hrb]at hnew
    dsimp only at hnew
    generalize relayAll t1 es1 (SetTable.grown es1.size)=Rl at hp hfr hnew ⊢
    obtain⟨es2,t3,gave2⟩:=Rl
    dsimp only at hp hfr hnew ⊢
    have hsz:es2.size=es1.size:=by rw [<- aE,hp.length_eq,aE]
    refine ag (hgw _ ?_)
    refine ag (zbE (s:={ s with heap:=h1,toks:=s.toks+1 }) ho1 (by exact nT (aG ‹_›) ‹_›) λ h2 hs2 ho2=>?_)
    refine ai (ai (q _ h2 _ (hs1.trans hs2) ⟨es2,_,t3,ho2,hel1.perm hp,hnew.symm,hfr,by simp;simp_all⟩))
   ·rename_i hc
    rw [aw hc]at hnew
    exact ai (ai (q _ h1 _ hs1 ⟨es1,_,t1,ho1,hel1,hnew.symm,hfits,by simp;simp_all⟩))
  split
  ·refine ag ?_
   rw [hashByValue_scannable 8 hsc]
   exact ai tail
  ·exact ag (ai tail)
end
section
variable {X:Ctx}{l:Nat}{R:Nat->Option Obj}{env:Env}{ρ:Loc}{μ:Mem}
noncomputable def sOk (b:Bool)(ns:List Int):Bool:=(sRun b ns).2.ok (sRun b ns).1.size && (sRun b ns).2.plain && ((sRun b ns).2.led == b)
noncomputable def sVals (b:Bool)(ns:List Int):List Int:=(sRun b ns).1.toList.map (·.1)
theorem zjA {g:Gh}:∀ {l:List (Int × Value)},IntEs l->VRs g ((l.map (·.1)).map V.int) (l.map (·.2))
 | [],_=>.nil
 | e :: l,h=>by
  obtain⟨⟨tk,e2⟩,_⟩:=h e (.head _)
  exact .cons ⟨tk,e2⟩ (zjA λ x hx=>h x (.tail _ hx))
theorem SJ.im {a:Nat}{b:Bool}{ns:List Int}{h:Heap}{g:Gh}(j:SJ a b ns h)(ok:sOk b ns=true):ImO g h a (.set b ((sVals b ns).map .int)):=by
 refine E35 (j) λ es ep t ho hel hrun hf hz=>?_
 unfold sOk at ok
 have e1:(sRun b ns).1=es.map blank:=by rw [<- hrun]
 have e2:(sRun b ns).2=t:=by rw [<- hrun]
 rw [e1,e2]at ok
 simp only [bl,Array.size_map,beq_iff_eq]at ok
 refine⟨es,ep,t,ho,ok.1.1,.inl ok.1.2,ok.2,?_⟩
 have:sVals b ns=es.toList.map (·.1):=by
  unfold sVals
  rw [e1,Array.toList_map,bv]
  rfl
 rw [this]
 exact zjA hel
theorem IsList.ints_at {g:Gh}{ns:List Int}{vs:List Value}(h:VRs g (ns.map .int) vs){i:Nat}{v:Value}(e:vs[i]? = some v):∃ k tk,ns[i]? = some k/\v = .int k tk:=by
 have hl:=h.length
 rw [ah]at hl
 have hi:i < vs.length:=by obtain⟨h,_⟩:=List.getElem?_eq_some_iff.mp e;exact h
 obtain⟨x,hx⟩:∃ x,ns[i]? = some x:=⟨ns[i]'(by simp only [*,an]),by simp⟩
 refine E12 (h.get (i:=i) (x:=.int x) (by simp [hx])) λ v' hv' q7=>?_;obtain⟨tk,e'⟩:=q7
 rw [e]at hv';cases hv'
 exact⟨x,tk,hx,e'⟩
theorem CV.set {x:V}{ns:List Int}{Q:V->Mem->Prop}(hx:RdL μ x (ns.map .int))(hk:∀ n∈ns,hashInt n=n)(hb:ns.length+1 < scanBound)(ok:sOk (!byText X.w) ns=true)
  (q:Q (.set (!byText X.w) ((sVals (!byText X.w) ns).map .int)) μ):CV X (l+1) R env ρ μ (.type "set") [x] Q:=cv1 λ g v vr A s ao r=>by
 refine E23 (r.list hx vr) λ c items q9 hl hv=>?_;subst q9
 have hlen:ns.length=items.size:=by have:=hv.length;simpa using this
 have hu:A.units+8 < cLine:=by have:=ao.units;exact nro (by decide) ‹_›
 refine zfA (λ i h=>SJ s.heap.objs.size (!byText X.w) (ns.take i) h) ao.handled hu hl.isList ?_ ?_ ?_ λ h' t kp hj=>?_
 ·intro i h h' q0;refine E32 (q0) λ es ep t ho rest=>?_;clear q0;intro k
  exact⟨es,ep,t,k _ _ (aF (bw _)) ho,rest⟩
 ·intro h Y ho
  exact⟨#[],0,_,ho,λ e he=>by simp at he,by simp [sRun],rfl,by simp⟩
 ·intro A E Y i v s' Q' hi hj hq
  refine E22 (IsList.ints_at hv (i:=i) (v:=v) (by simpa using hi)) λ k tk hn q9=>?_;subst q9
  obtain⟨hi',_⟩:=List.getElem?_eq_some_iff.mp hn
  have e:ns.take (i+1)=ns.take i ++ [k]:=by rw [aK,hn];rfl
  refine zhW hj (hk k (ap hn)) (by rw [be];first | exact aM (br (bg _ _)) ‹_› | lia) λ b' h' t' hs hj'=>hq b' h' t' hs ?_
  show SJ _ _ (ns.take (i+1)) h'
  rw [e];exact hj'
 ·have e:ns.take items.size=ns:=List.take_of_length_le (by exact aG ‹_›)
  have hj':SJ s.heap.objs.size (!byText X.w) (ns.take items.size) h':=hj
  rw [e]at hj'
  obtain⟨le,r1⟩:=r.newIm (s':={ s with heap:=h',toks:=t }) (v:=.set (!byText X.w) ((sVals (!byText X.w) ns).map .int)) (n:=s.heap.objs.size) (an _) kp (hj'.im ok) rfl rfl rfl
  exact⟨_,_,le,r1,.set (!byText X.w) ((sVals (!byText X.w) ns).map .int),⟨_,rfl,by simp [Gh.newIm]⟩,q⟩
end
/-! walking a set -/
theorem zbW {xs:Array Nat}(h:SetTable.rising xs=true):∀ (j i:Nat),i < j->j < xs.size->xs.getD i 0 < xs.getD j 0
 | 0,i,hi,_=>by exact(cG _ (by assumption)).elim
 | j+1,i,hi,hj=>by
  have s:xs.getD j 0 < xs.getD (j+1) 0:=by
   unfold SetTable.rising at h
   have:=List.all_eq_true.mp h j (List.mem_range.mpr (Nat.lt_sub_of_add_lt hj))
   simpa using this
  by_cases e:i=j
  ·subst e;exact s
  ·exact bU (zbW h j i (by exact aX (aR ‹_›) ‹_›) (by exact az (by assumption))) s
theorem zdz (xs:Array Nat)(j:Nat)(h:SetTable.rising xs=true):∀ (fuel lo hi:Nat),hi<=lo+fuel->lo<=hi->hi<=xs.size->(∀ k,k < lo->xs.getD k 0 < j)->(∀ k,hi<=k->k < xs.size->j<=xs.getD k 0) ->
  SetTable.below.go xs j fuel lo hi<=xs.size/\(∀ k,k < SetTable.below.go xs j fuel lo hi->xs.getD k 0 < j)/\(∀ k,SetTable.below.go xs j fuel lo hi<=k->k < xs.size->j<=xs.getD k 0)
 | 0,lo,hi,h1,h2,h3,h4,h5=>by
  have:lo=hi:=by exact bV ‹_› ‹_›
  subst this
  exact⟨h3,h4,h5⟩
 | fuel+1,lo,hi,h1,h2,h3,h4,h5=>by
  unfold SetTable.below.go
  by_cases hlt:lo < hi
  ·rw [aB hlt]
   dsimp only
   have mlt:(lo+hi) / 2 < hi:=by exact nul ‹_›
   have mge:lo<=(lo+hi) / 2:=by exact num ‹_›
   generalize hm:(lo+hi) / 2=m at mlt mge ⊢
   have hd:xs.getD m j=xs.getD m 0:=by simp [Array.getD,show m < xs.size by exact au (by assumption) (by assumption)]
   rw [hd]
   by_cases hx:xs.getD m 0 < j
   ·rw [aB hx]
    refine zdz xs j h fuel (m+1) hi (by lia) (by assumption) h3 (λ k hk=>?_) h5
    by_cases e:k=m
    ·subst e;exact hx
    ·exact bU (zbW h m k (by exact aX (aR ‹_›) ‹_›) (by exact au (by assumption) (by assumption))) hx
   ·rw [aw hx]
    refine zdz xs j h fuel lo m (by exact nqS ‹_› ‹_›) (by assumption) (by exact az (au (by assumption) (by assumption))) h4 λ k hk hs=>?_
    by_cases e:k=m
    ·subst e;exact Nat.not_lt.mp (by assumption)
    ·have:=zbW h k m (by exact aX ‹_› (cp ‹_›)) hs;omega
  ·rw [aw hlt]
   have:lo=hi:=by exact nqT ‹_› ‹_›
   subst this
   exact⟨h3,h4,h5⟩
noncomputable def slotAt (place:Array Nat):Nat->Nat
 | 0=>0
 | i+1=>place.getD i 0+1
theorem zhV {xs:Array Nat}(h:SetTable.rising xs=true){i:Nat}(hi:i<=xs.size):SetTable.below xs (slotAt xs i)=i:=by
 unfold SetTable.below
 obtain⟨h1,h2,h3⟩:=zdz xs (slotAt xs i) h xs.size 0 xs.size (by exact aY _ _) (by exact aY _ _) (an _) (λ k hk=>by exact(cG _ (by assumption)).elim) (λ k hk hs=>by exact(Nat.not_le_of_lt ‹_› ‹_›).elim)
 generalize SetTable.below.go xs (slotAt xs i) xs.size 0 xs.size=r at h1 h2 h3 ⊢
 induction i with
 | zero =>
  induction r with
  | zero=>rfl
  | succ r=>have:=h2 0 (by exact aY _ _);simp [slotAt]at this
 | succ i =>
  have a:i < r:=by
   rcases bN i r with q | q
   ·exact q
   ·have:=h3 i q (by assumption);simp only [slotAt]at this;exact absurd (by assumption) (bj _)
  rcases bN (i+1) r with q | q
  ·have h4:=h2 (i+1) q
   have h5:=zbW h (i+1) i (by exact an _) (by exact au (by assumption) (by assumption))
   simp only [slotAt]at h4
   exact(cH ‹_› ‹_›).elim
  ·exact bV ‹_› ‹_›
theorem zc8 {α:Type}:∀ {l:List α} {i:Nat} (h:i < l.length),(l[i] :: l.eraseIdx i).Perm l
 | x :: l,0,_=>.rfl
 | x :: l,i+1,h=>(List.Perm.swap _ _ _).trans ((zc8 (l:=l) (i:=i) (by simpa using h)).cons x)
theorem zdR {α:Type}(next:Nat->Nat):∀ (fuel k:Nat) (left:List α) (out:Array α),left.length=fuel->(pickOrder.go next fuel k left out).toList.Perm (out.toList ++ left)
 | 0,k,left,out,h=>by
  have:left=[]:=List.eq_nil_of_length_eq_zero h
  subst this
  simp [pickOrder.go]
 | fuel+1,k,left,out,h=>by
  unfold pickOrder.go
  have lt:next k % left.length < left.length:=Nat.mod_lt _ (by simp_all)
  rw [al lt]
  dsimp only
  refine(zdR next fuel (k+1) _ _ (by rw [List.length_eraseIdx_of_lt lt];simp_all)).trans ?_
  rw [Array.toList_push,List.append_assoc]
  refine List.Perm.append_left _ ?_
  exact zc8 lt
theorem zd8 {α:Type}(next:Nat->Nat)(xs:Array α):(pickOrder next xs).toList.Perm xs.toList:=by
 unfold pickOrder
 simpa using zdR next xs.size 0 xs.toList #[] (by simp)
noncomputable def setOrd (w:World)(a ep:Nat)(es:Array (Int × Value)):Array (Int × Value):=if byText w then pickOrder (w.params.setOrder a ep) es else es
theorem zaC (w:World)(a ep:Nat)(es:Array (Int × Value)):(setOrd w a ep es).toList.Perm es.toList:=by
 unfold setOrd;split
 ·exact zd8 _ _
 ·exact .rfl
theorem zca:entryFor table "set.__iter__" = some Builtin.«frozenset.__iter__» :=
 entryFor_alias (id':="frozenset.__iter__") (by kernel_rfl) rfl (by decide +kernel) (by kernel_rfl)
theorem zal:Slot "set_iterator" "__next__" "set_iterator.__next__" :=
 .of (owner:="set_iterator") (n:="__next__") (by rw [typeLookup_type,builtinLookup_eq_fast];kernel_rfl) (by decide +kernel) (by decide +kernel) (by decide +kernel)
  (by first | exact .inl (by decide +kernel) | exact .inr (by decide +kernel)) (by rw [isSubtype_type];kernel_rfl)
theorem zcI:entryFor table "set_iterator.__next__" = some Builtin.«set_iterator.__next__»:=entryFor_of_tree (by kernel_rfl)
theorem zgU:Manifest.owners.lookup (String.ofList ['r','o','t','a','r','e','t','i','_','t','e','s'].reverse)=some Manifest.sig_set_iterator:=by kernel_rfl
theorem zdl (a:Value):argsOk "set_iterator.__next__" ⟨[a],[]⟩:=by
 unfold argsOk;rw [signature?_of (id:="set_iterator.__next__") (n:=['_','_','t','x','e','n','_','_']) (o:=['r','o','t','a','r','e','t','i','_','t','e','s']) (by kernel_rfl) zgU];kernel_rfl
structure SetAt (w:World)(h:Heap)(a:Nat)(es:Array (Int × Value))(ep:Nat)(t:SetTable):Prop where
 at_:h.get? a=some { cls:=.type "set",dict:=none,data:=.set es ep t }
 fits:t.fits es.size=true
 rising:SetTable.rising t.place=true
 plain:byText w=false->(!t.plain && decide (es.size > 1))=false
 led:t.led = !byText w
noncomputable def siObj (sl i a n ep:Nat):Obj:={ cls:=.type "set_iterator",data:=.fields #[.int sl 0,.int i 0,.ref a,.int n 0,.int ep 0] }
noncomputable def IsSetIter (w:World)(h:Heap)(I a i n ep:Nat)(t:SetTable):Prop:=∃ sl,h.get? I=some (siObj sl i a n ep)/\(byText w=false->sl=slotAt t.place i)
section
variable {prog:Program}{w:World}{A:Around}{E:Value->Shared->Prop}{s:Shared}{a I:Nat}{es:Array (Int × Value)}{ep:Nat}{t:SetTable}
theorem SetAt.typeIs (h:SetAt w s.heap a es ep t):s.TypeIs (.ref a) "set":=⟨_,h.at_,rfl⟩
theorem SetAt.size (h:SetAt w s.heap a es ep t):t.place.size=es.size:=by
 have:=h.fits;simp only [SetTable.fits,bl,beq_iff_eq]at this;exact this.1
theorem zbn {Q:Bool->Shared->Prop}(h:Q (byText w) s):wpAny (model prog w) A setsByText Q E s:=by
 unfold setsByText
 exact ag (wpAny_askSetting (ai h))
theorem zeu {Q:Value->Shared->Prop}(h:SetAt w s.heap a es ep t)(q:Q (.ref s.heap.objs.size) { s with heap:=s.heap.push (siObj 0 0 a es.size ep) }) :
  wpAny (model prog w) A (pyIter (.ref a)) Q E s:=by
 have ho:=h.at_
 refine wpAny_pyIter_slot h.typeIs PySem.F.slot_set_iter (bq PySem.F.slot_set_iter h.typeIs zca ?_ (PySem.F.args_set_iter_1 _))
 unfold Builtin.«frozenset.__iter__» Builtin.Frozenset.slot0 slotArgs
 simp only [List.isEmpty_nil,Bool.not_true,bQ,↓reduceIte,bind_assoc,List.length_nil,bne_self_eq_false]
 unfold Builtin.Frozenset.addrOf Builtin.Frozenset.sizeOf setDrawn
 refine ag (ai ?_)
 try dsimp only
 refine ag (ai ?_)
 refine ag (ag (wpAny_setEntries_of ho rfl h.fits (ai ?_)))
 try dsimp only
 refine ag (ag (cu ho rfl h.fits ?_))
 dsimp only
 refine ag (zbn ?_)
 refine ai ?_
 refine cE (λ hc=>absurd hc ?_) (λ Y=>?_)
 ·show ¬ ((!byText w && (!t.plain && decide (es.size > 1)))=true)
  cases hb:byText w with
  | true=>simp
  | false=>rw [h.plain hb];simp
 ·refine ag (ai ?_)
  refine ag (wpAny_setEpoch_of ho rfl h.fits ?_)
  refine ag (wpAny_newObj_type (ai ?_) (by first | decide | rfl | size_fits))
  exact⟨_,rfl,"set_iterator",_,⟨_,aJ _ rfl,rfl⟩,zal.lookup,q⟩
theorem IsSetIter.typeIs {i n:Nat}(h:IsSetIter w s.heap I a i n ep t):s.TypeIs (.ref I) "set_iterator":=let ⟨_,ho,_⟩:=h;⟨_,ho,rfl⟩
theorem zhx {Q:Array (Int × Value)->Shared->Prop}(h:SetAt w s.heap a es ep t)(hb:byText w=true)(q:Q (pickOrder (w.params.setOrder a ep) es) s):wpAny (model prog w) A (setWalk a) Q E s:=by
 unfold setWalk
 refine ag (cu h.at_ rfl h.fits ?_)
 dsimp only
 refine ag (zbn ?_)
 refine wpAny_ite_true (cx (hb)) ?_
 exact ag (wpAny_askSetting (ai q))
theorem zho {i sl:Nat}{Q:Option (Value × Nat)->Shared->Prop}(h:SetAt w s.heap a es ep t)(hsl:byText w=false->sl=slotAt t.place i)(hi:i<=es.size)
  (q:∀ r,r.map (·.1)=((setOrd w a ep es)[i]?).map (·.2)->(∀ p,r=some p->byText w=false->p.2=slotAt t.place (i+1))->Q r s):wpAny (model prog w) A (setNext a sl i ep) Q E s:=by
 unfold setNext
 refine ag (cu h.at_ rfl h.fits ?_)
 dsimp only
 refine ag (zbn ?_)
 induction hb:byText w with
 | true =>
  refine wpAny_ite_true rfl ?_
  simp only [bne_self_eq_false,bQ,↓reduceIte]
  refine ag (zhx h hb ?_)
  refine ai (q _ ?_ λ Y Y hf=>Bool.noConfusion (hb.symm.trans hf))
  unfold setOrd
  rw [aB hb]
  simp [Function.comp_def]
 | false =>
  rw [aw (by simp)]
  have e0:=hsl hb
  have e1:SetTable.below t.place sl=i:=by rw [e0];exact zhV h.rising (by rw [h.size];exact hi)
  refine cE (λ hc=>absurd hc ?_) (λ Y=>?_)
  ·show ¬ ((!t.plain && decide (es.size > 1))=true)
   rw [h.plain hb];simp
  refine ag ?_
  show wpAny _ _ (if (!t.led && !es.isEmpty)=true then _ else pure ()) _ _ s
  rw [aw (by rw [h.led,hb];simp)]
  refine ai ?_
  rw [e1]
  have hs:=h.size
  have eo:setOrd w a ep es=es:=by unfold setOrd;rw [aw (by simp [hb])]
  rcases bN i es.size with hlt | hge
  ·have hp:i < t.place.size:=by simp only [*,an]
   rw [bp hlt,bp hp]
   refine ai (q _ ?_ ?_)
   ·rw [eo,bp hlt];rfl
   ·intro p e _
    cases e
    simp [slotAt,hp]
  ·rw [Array.getElem?_eq_none hge]
   refine ai (q _ ?_ λ p e=>by cases e)
   rw [eo,Array.getElem?_eq_none hge];rfl
theorem ziO (sl i a n ep:Nat):(siObj sl i a n ep).data = .fields #[.int sl 0,.int i 0,.ref a,.int n 0,.int ep 0]:=rfl
theorem ziA {i:Nat}{Q:Option Value->Shared->Prop}(hh:A.handled=none)(hit:IsSetIter w s.heap I a i es.size ep t)(h:SetAt w s.heap a es ep t)(hi:i<=es.size)
  (q:∀ e,(setOrd w a ep es)[i]? = some e->∀ h',IsSetIter w h' I a (i+1) es.size ep t->Heap.SameBut I s.heap h'->Q (some e.2) { s with heap:=h' })
  (q0:(setOrd w a ep es)[i]? = none->∀ h',(∀ b o,b≠I->s.heap.get? b=some o->h'.get? b=some o)->Q none { s with heap:=h' }):wpAny (model prog w) A (pyNext (.ref I)) Q E s:=by
 refine E12 (id hit) λ sl ho hsl=>?_
 unfold pyNext
 refine ag (wpAny_attempt (wpAny_callSpecial?_slot (name:=Str.ofString "__next__") hit.typeIs zal
  (bq zal hit.typeIs zcI ?_ (zdl _))))
 unfold Builtin.«set_iterator.__next__» slotArgs
 dsimp only [List.isEmpty_nil,Bool.not_true,List.length_nil,bne_self_eq_false]
 try simp only [bQ,↓reduceIte]
 refine ag (ai ?_)
 try dsimp only
 refine ag (wpAny_fieldsOf ho (ziO ..) ?_)
 dsimp only
 refine ag (wpAny_setEntries_of h.at_ rfl h.fits ?_)
 refine bm (bK ((by simp))) ?_
 dsimp only [Int.toNat_natCast]
 refine ag (zho h hsl (hi) λ r h1 h2=>?_)
 induction r with
 | some p =>
  obtain⟨x,nx⟩:=p
  dsimp only
  refine ag (wpAny_setField_rec ho (by simp) λ hp1 ho1 hs1=>?_)
  refine ag (wpAny_setField_rec (s:={ s with heap:=hp1 }) ho1 (by simp) λ h3 ho3 hs3=>?_)
  cases hx:(setOrd w a ep es)[i]? with
  | none=>rw [hx]at h1;cases h1
  | some e =>
   rw [hx]at h1
   simp only [Option.map_some,Option.some.injEq]at h1
   subst h1
   refine ai ⟨_,rfl,ai (q _ hx h3 ⟨nx,?_,λ hf=>h2 _ rfl hf⟩ (hs1.trans hs3))⟩
   exact ho3.trans (by simp [siObj,rawInt])
 | none =>
  have hn:(setOrd w a ep es)[i]? = none:=by
   cases hx:(setOrd w a ep es)[i]? with
   | none=>rfl
   | some e=>rw [hx]at h1;cases h1
  dsimp only
  refine ag (wpAny_setField_rec ho (by simp) λ h3 ho3 hs3=>?_)
  show wpAny _ _ (newExc (.type "StopIteration") [] >>= _) _ _ _
  refine ag ?_
  simp only [newExc,newTuple]
  refine ag (wpAny_newObj_type ?_ (by size_fits))
  refine ag (m:=firstArgMember _ _) (wpAny_of_eq (a:=Value.none) (by first | rfl | (simp only [firstArgMember];rfl)) ?_)
  refine wpAny_newObj_type ?_ (by size_fits)
  unfold raiseNew
  dsimp only
  refine ag (wpAny_handled ?_)
  rw [show A.in1.handled=none from hh]
  refine ag (ai (wpAny_throw ?_))
  refine ag (wpAny_isInstance (T:="StopIteration") (b:=true) ⟨_,aJ _ rfl,rfl⟩ isSubtype_stop ?_)
  exact ai (q0 hn _ λ b o hb e=>ay _ (ay _ ((hs3.2 b hb).trans e)))
theorem zjG {i:Nat}{e:Int × Value}{Q:Option Value->Shared->Prop}(hh:A.handled=none)(hit:IsSetIter w s.heap I a i es.size ep t)(h:SetAt w s.heap a es ep t)(hx:(setOrd w a ep es)[i]? = some e)
  (q:∀ h',IsSetIter w h' I a (i+1) es.size ep t->Heap.SameBut I s.heap h'->Q (some e.2) { s with heap:=h' }):wpAny (model prog w) A (pyNext (.ref I)) Q E s:=by
 have hi:i < es.size:=by
  obtain⟨h1,_⟩:=Array.getElem?_eq_some_iff.mp hx
  have:=(zaC w a ep es).length_eq
  simp only [aE]at this
  exact bP ‹_› ‹_›
 exact ziA hh hit h (az hi) (λ e' he h' k1 k2=>by rw [hx]at he;cases he;exact q h' k1 k2) λ e'=>by rw [hx]at e';cases e'
theorem zj9 {Q:Option Value->Shared->Prop}(hh:A.handled=none)(hit:IsSetIter w s.heap I a es.size es.size ep t)(h:SetAt w s.heap a es ep t)
  (q:∀ h',(∀ b o,b≠I->s.heap.get? b=some o->h'.get? b=some o)->Q none { s with heap:=h' }):wpAny (model prog w) A (pyNext (.ref I)) Q E s:=by
 have hn:(setOrd w a ep es)[es.size]? = none:=by
  refine Array.getElem?_eq_none ?_
  have:=(zaC w a ep es).length_eq
  simp only [aE]at this
  exact aG ‹_›
 exact ziA hh hit h (an _) (λ e he=>by rw [hn]at he;cases he) λ Y=>q
theorem SetAt.keep {h h':Heap}(x:SetAt w h a es ep t)(k:∀ o,h.get? a=some o->h'.get? a=some o):SetAt w h' a es ep t:=⟨k _ x.at_,x.fits,x.rising,x.plain,x.led⟩
theorem zbm:Slot "set_iterator" "__iter__" "set_iterator.__iter__" :=
 .of (owner:="set_iterator") (n:="__iter__") (by rw [typeLookup_type,builtinLookup_eq_fast];kernel_rfl) (by decide +kernel) (by decide +kernel) (by decide +kernel)
  (by first | exact .inl (by decide +kernel) | exact .inr (by decide +kernel)) (by rw [isSubtype_type];kernel_rfl)
end
theorem zcD:entryFor table "set_iterator.__iter__" = some Builtin.«dict_keyiterator.__iter__» :=
 entryFor_alias (id':="dict_keyiterator.__iter__") (by kernel_rfl) rfl (by decide +kernel) (by kernel_rfl)
theorem zdj (a:Value):argsOk "set_iterator.__iter__" ⟨[a],[]⟩:=by
 unfold argsOk;rw [signature?_of (id:="set_iterator.__iter__") (n:=['_','_','r','e','t','i','_','_']) (o:=['r','o','t','a','r','e','t','i','_','t','e','s']) (by kernel_rfl) zgU];kernel_rfl
section
variable {prog:Program}{w:World}{A:Around}{E:Value->Shared->Prop}{s:Shared}{a I:Nat}{es:Array (Int × Value)}{ep:Nat}{t:SetTable}
theorem zjZ {i n:Nat}{Q:Value->Shared->Prop}(hit:IsSetIter w s.heap I a i n ep t)(h:Q (.ref I) s):wpAny (model prog w) A (pyIter (.ref I)) Q E s:=by
 refine wpAny_pyIter_slot hit.typeIs zbm (bq zbm hit.typeIs zcD ?_ (zdj _))
 show wpAny _ _ (ret (.ref I)) _ _ s
 exact ai ⟨_,rfl,"set_iterator",_,hit.typeIs,zal.lookup,h⟩
theorem zgP {r:Nat}{Q:Bool->Shared->Prop}(hT:s.TypeIs (.ref r) "set")(h:Q false s):wpAny (model prog w) A (Builtin.List.listLengthHint (.ref r)) Q E s:=by
 unfold Builtin.List.listLengthHint
 refine ag (wpAny_specialOf hT PySem.F.slot_set_len.lookup ?_)
 generalize hid:("set.__len__":String)=id0
 wp_delta
 rw [show splitId id0=some ("set","__len__")from by subst hid;decide +kernel]
 subst hid
 refine ag (wpAny_isInstance (T:="set") (b:=true) hT (by rw [isSubtype_type];kernel_rfl) ?_)
 refine cE (λ hab=>absurd hab (by decide)) (λ Y=>?_)
 refine cE (λ Y=>?_) (λ hab=>absurd (by decide +kernel) hab)
 refine ag (wpAny_typeOf hT ?_)
 exact ai h
theorem Walks.set (hh:A.handled=none)(I a:Nat)(hne:a≠I)(es:Array (Int × Value))(ep:Nat)(t:SetTable) :
  Walks prog w A I [I,a] [I] es.size (λ i v=>∃ e,(setOrd w a ep es)[i]? = some e/\v=e.2) (λ i h=>IsSetIter w h I a i es.size ep t/\SetAt w h a es ep t) where
 sub:=λ b hb=>by simp at hb;simp [hb]
 frame:=λ Y Y Y st hk=>⟨let ⟨sl,ho,h⟩:=st.1;⟨sl,hk I (by simp) _ ho,h⟩,st.2.keep λ o e=>hk a (by simp) o e⟩
 item:=λ i s Q E hi st hQ=>by
  have hl:=(zaC w a ep es).length_eq
  simp only [aE]at hl
  obtain⟨e,hx⟩:∃ e,(setOrd w a ep es)[i]? = some e:=⟨(setOrd w a ep es)[i]'(by simp only [*,an]),by simp [show i < (setOrd w a ep es).size by simp only [*,an]]⟩
  refine zjG hh st.1 st.2 hx λ h' hit' hs'=>?_
  exact hQ e.2 h' s.toks ⟨e,hx,rfl⟩ ⟨hit',st.2.keep λ o eo=>(hs'.2 a hne).trans eo⟩ λ b o hb eb=>(hs'.2 b (λ h=>hb (by simp [h]))).trans eb
 done:=λ s Q E st hQ=>zj9 hh st.1 st.2 λ h' k=>hQ h' s.toks λ b o hb e=>k b o (λ h=>hb (by simp [h])) e
 self:=λ Y Y Y Y st hQ=>zjZ st.1 hQ
theorem setSrc:KdlSrc prog w "set" a a es.size (λ i v=>∃ e,(setOrd w a ep es)[i]? = some e/\v=e.2) (λ h=>SetAt w h a es ep t) where
 type:=λ Y hm=>hm.typeIs
 there:=λ Y hm=>⟨aO hm.at_,aO hm.at_⟩
 keep:=λ Y Y hm hk=>hm.keep λ o e=>hk a (.inl rfl) o e
 notList:=by decide
 notTuple:=by decide
 hint:=λ Y Y Y Y hm hq=>zgP hm.typeIs hq
 iter:=λ Y s hh hm=>⟨_,_,(λ Y Y hq=>zeu hm hq),Walks.set hh _ a (aF (aO hm.at_)) es ep t,⟨⟨0,aJ _ rfl,λ Y=>rfl⟩,hm.keep λ o e=>ay _ e⟩⟩
end
theorem ziT {vs us:List Value}(p:vs.Perm us):∀ {ns:List Int},IntsAre us ns->∃ ms,IntsAre vs ms/\ms.Perm ns:=by
 induction p with
 | nil=>intro ns h;exact⟨ns,h,.rfl⟩
 | cons x _ ih =>
  intro ns h
  cases h with
  | cons n tk h =>
   refine E12 (ih h) λ ms h1 h2=>?_
   exact⟨n :: ms,.cons n tk h1,h2.cons _⟩
 | swap x y l =>
  intro ns h
  cases h with
  | cons n tk h =>
   cases h with
   | cons n' tk' h=>exact⟨_,.cons _ _ (.cons _ _ h),.swap _ _ _⟩
 | trans _ _ ih1 ih2 =>
  intro ns h
  refine E12 (ih2 h) λ ms h1 h2=>?_
  refine E12 (ih1 h1) λ ks h3 h4=>?_
  exact⟨ks,h3,h4.trans h2⟩
section
variable {X:Ctx}{l:Nat}{R:Nat->Option Obj}{env:Env}{ρ:Loc}{μ:Mem}{g:Gh}{s:Shared}
theorem Rep.setE (r:Rep X R env ρ g μ s){v:Value}{xs:List V}(vr:VR g (.set (!byText X.w) xs) v):∃ (a:Nat) (es:Array (Int × Value)) (ep:Nat) (t:SetTable),v = .ref a/\s.heap.get? a=some { cls:=.type "set",dict:=none,data:=.set es ep t }/\t.fits es.size=true/\SetTable.rising t.place=true/\t.led = !byText X.w/\VRs g xs (es.toList.map (·.2))/\(t.plain=true∨xs.all V.isTup=true):=by
 obtain⟨a,rfl,h⟩:=vr
 refine E35 (r.im _ _ h) λ es ep t ho ok hp hl hv=>?_
 simp only [SetTable.ok,bl]at ok
 refine⟨a,es,ep,t,rfl,ho,?_,ok.1.1.1.1.1.2,hl,hv,hp⟩
 simp only [SetTable.fits,bl]
 exact⟨ok.1.1.1.1.1.1,ok.1.1.1.2⟩
theorem Rep.set_ (r:Rep X R env ρ g μ s){v:Value}{ns:List Int}(vr:VR g (.set (!byText X.w) (ns.map .int)) v):∃ (a:Nat) (es:Array (Int × Value)) (ep:Nat) (t:SetTable),v = .ref a/\SetAt X.w s.heap a es ep t/\VRs g (ns.map .int) (es.toList.map (·.2)):=by
 refine E47 (r.setE vr) λ a es ep t q9 ho hf hr hl hv hp=>?_;subst q9
 refine⟨a,es,ep,t,rfl,⟨ho,hf,hr,λ _=>?_,hl⟩,hv⟩
 rcases hp with hp | hp
 ·rw [hp];rfl
 ·have hz:=hv.length
  rw [ah,ah]at hz
  cases ns with
  | nil =>
   have h0:es.size=0:=by rw [<- aE,<- hz];rfl
   rw [h0];simp
  | cons n ns=>simp [V.isTup]at hp
theorem CV.sortedSet {ns:List Int}{Q:V->Mem->Prop}(hn:ns.length < 64)(q:∀ ns':List Int,ns'.Perm ns->ns'.Pairwise (· <= ·)->NewList μ (ns'.map .int) Q) :
  CV X l R env ρ μ (.builtin "sorted") [.set (!byText X.w) (ns.map .int)] Q:=cv1 λ g v vr A s ao r=>by
 refine E43 (r.set_ vr) λ a es ep t q9 hs hv=>?_;subst q9
 obtain⟨m,F⟩:=r.fr_
 have hlen:ns.length=es.size:=by have:=hv.length;simpa using this
 refine kdu_sorted (setSrc (prog:=X.prog) (es:=es) (ep:=ep) (t:=t)) ao.handled F (zam (skip:=λ Y=>false)) hs (by rw [<- hlen];unfold sizeLine;exact nT (az (by assumption)) (nB rfl)) λ D h' tk vs F' N' hlt hl hP=>?_
 have hvs:vs=(setOrd X.w a ep es).toList.map (·.2):=by
  refine List.ext_getElem? λ j=>?_
  have hl2:=(zaC X.w a ep es).length_eq
  rcases bN j vs.length with hj | hj
  ·refine E12 (hP j vs[j] (by simp)) λ e h1 h2=>?_
   rw [al hj,h2,aD,Array.getElem?_toList,h1];rfl
  ·rw [bT hj,bT]
   rw [ah,hl2,aE];simp_all
 refine E12 (ziT (vs:=vs) (by rw [hvs];exact(zaC X.w a ep es).map _) hv.ints) λ ms hI hpm=>?_
 obtain⟨h1,h2,h3⟩:=N' _ (.head _)
 have r1:Rep X R env ρ g μ { s with heap:=h',toks:=tk }:=r.fromNews (pre:=[_]) F F' N'
 have fD:Fre R env g D:=by
  refine .gone r ?_ h2
  induction e:s.heap.get? D with
  | none=>rfl
  | some o=>exact absurd (hlt _ (zaR.mpr ⟨h2,rfl,h3,e⟩)) (bj D)
 refine bq PyProof.Rows.slot_list_sort ⟨_,h1,rfl⟩ PyProof.Rows.entry_list_sort (list_sort_tree (n:=0) (vs:=vs) h1 hI (by simp_all) λ out ns' hO hp hs'=>⟨.none,rfl,?_⟩) (PyProof.Rows.args_list_sort _)
 obtain⟨c,hc⟩:=sortedHeap_at (out:=out) h1
 have r2:Rep X R env ρ g μ { s with heap:=sortedHeap h' D vs out,toks:=tk }:=r1.but fD (λ b o ne e=>(sortedHeap_old ne (aO e)).trans e) rfl rfl rfl
 exact r2.adoptLst (items:=out) fD ⟨c,hc⟩ (VRs.of_ints hO) (q ns' (hp.trans hpm) hs')
end
/-! comprehensions of two clauses -/
section
variable {X:Ctx}{l:Nat}{R:Nat->Option Obj}{env:Env}{ρ:Loc}{μ:Mem}
noncomputable def inner (e:Expr)(g':Comprehension)(acc:Value)(env:Env):Sem Unit:=do
 let x <- eval g'.iter env
 standAt g'.iter.pos
 let x <- foldedSetIterable g'.iter env x
 let _ <- runOwn (.compStart e 1 (<- holding [x] (pyIter x)) acc env) env
theorem turn1 (elt:Expr)(ee ef:Expr)(er:List Expr)(dO dQ:Expr)(dP:List Expr)(scope:Scope)(pos:Pos)(it acc:Value)(env:Env) :
  compTurn (.ListComp elt [⟨ee,ef,er,0⟩,⟨dO,dQ,dP,0⟩] scope pos) 0 it acc env=gTurn ⟨ee,ef,er,0⟩ (inner (.ListComp elt [⟨ee,ef,er,0⟩,⟨dO,dQ,dP,0⟩] scope pos) ⟨dO,dQ,dP,0⟩ acc env) (.ListComp elt [⟨ee,ef,er,0⟩,⟨dO,dQ,dP,0⟩] scope pos) 0 it acc env:=by
 unfold compTurn gTurn inner
 simp only [bind_assoc]
 rfl
end
section
variable {prog:Program}{w:World}{A:Around}{s:Shared}
theorem compStart2 {elt ee ef dO dQ:Expr}{er dP:List Expr}{scope:Scope}{pos:Pos}{it acc:Value}{env:Env}{R:Result->Shared->Prop}
  (h0:codeAny (model prog w) A (.compLoop (.ListComp elt [⟨ee,ef,er,0⟩,⟨dO,dQ,dP,0⟩] scope pos) 1 it acc env) R s)
  (h:wpAny (model prog w) A (pyIter it) (λ it' s'=>codeAny (model prog w) A (.compLoop (.ListComp elt [⟨ee,ef,er,0⟩,⟨dO,dQ,dP,0⟩] scope pos) 1 it' acc env) R s')
   (notedBy (model prog w) A env λ x s'=>R (.error x) s') s) :
  codeAny (model prog w) A (.compStart (.ListComp elt [⟨ee,ef,er,0⟩,⟨dO,dQ,dP,0⟩] scope pos) 1 it acc env) R s:=by
 refine codeAny_of_tree ?_
 show wpAny _ _ ((compStart (.ListComp elt [⟨ee,ef,er,0⟩,⟨dO,dQ,dP,0⟩] scope pos) 1 it acc env).onRaise (λ x=>do noteFrame x env;standAt theWindowsPlace)) _ _ s
 refine wpAny_notedAt ?_
 unfold compStart
 show wpAny _ _ (ask >>= _) _ _ s
 refine ag (wpAny_askSetting (wpAny_ite ?_))
 split
 ·first
   | exact ag (ai (ai (And.intro rfl h0)))
   | exact ai (And.intro rfl h0)
 ·first
   | exact ag (wpAny_rule (ag (cJ (ag (am h (λ it' s' h'=>ai (And.intro rfl h')) λ Y Y x=>x)))))
   | (refine ag (wpAny_rule ?_);show wpAny _ _ (standAt dQ.pos >>= _) _ _ s;exact ag (cJ (ag (am h (λ it' s' h'=>ai (And.intro rfl h')) λ Y Y x=>x))))
end
section
variable {X:Ctx}{l:Nat}{env:Env}{ρ:Loc}{μ:Mem}
theorem turn2 (elt:Expr)(ee ef:Expr)(er:List Expr)(dO dQ:Expr)(dP:List Expr)(scope:Scope)(pos:Pos)(it acc:Value)(env:Env) :
  compTurn (.ListComp elt [⟨ee,ef,er,0⟩,⟨dO,dQ,dP,0⟩] scope pos) 1 it acc env=gTurn ⟨dO,dQ,dP,0⟩ (do let _ <- call (.builtin "list.append") [acc,<- eval elt env]) (.ListComp elt [⟨ee,ef,er,0⟩,⟨dO,dQ,dP,0⟩] scope pos) 1 it acc env:=by
 unfold compTurn gTurn
 simp only [bind_assoc]
 rfl
inductive KIn (X:Ctx)(l:Nat)(env:Env)(ρ:Loc)(dO:Expr)(dP:List Expr)(elt:Expr)(ys:List V)(Q:List V->Loc->Mem->Prop)(xs:List V)(ok:Mem->Prop)(okT:Expr->Prop)(dp:Mem):Prop
 | mk (hT:okT dO) (Inv:Nat->List V->Loc->Mem->Prop) (hok:∀ i ys dm dl,Inv i ys dm dl->ok dl) (h0:Inv 0 ys ρ dp)
   (turn:∀ R' i z ys dm dl,xs[i]? = some z->Inv i ys dm dl->AT X l R' env dm dl dO z λ dN dp=>WIfs X l R' env dN dp dP λ b dt =>
    (b=true->∀ R'',W X l R'' env dN dt elt λ y dK=>ys.length<=sizeLine/\Inv (i+1) (ys ++ [y]) dN dK)/\(b=false->Inv (i+1) ys dN dt))
   (fin:∀ ys' dm dl,Inv xs.length ys' dm dl->Q ys' dm dl):KIn X l env ρ dO dP elt ys Q xs ok okT dp
theorem BodyOk.inner {elt ee ef dO dQ:Expr}{er dP:List Expr}{scope:Scope}{pos:Pos}{D:Nat}{ys:List V}{Q:List V->Loc->Mem->Prop}
  (h:∀ R',WIt X l R' env ρ μ dQ (KIn X l env ρ dO dP elt ys Q))
  (hf:(λ x=>pure x)=foldedSetIterable dQ env:=by exact rfl) :
  BodyOk X l env ρ μ (inner (.ListComp elt [⟨ee,ef,er,0⟩,⟨dO,dQ,dP,0⟩] scope pos) ⟨dO,dQ,dP,0⟩ (.ref D) env) D ys Q:=by
 intro R g A s items a r fD hD hv
 obtain⟨nD,hoD⟩:=id hD
 have one:∀ b∈[D],b=D:=λ b hb=>List.mem_singleton.mp hb
 have hasD:∀ b∈[D],∃ o,s.heap.get? b=some o:=λ b hb=>by rw [one b hb];exact⟨_,hoD⟩
 have fDs:∀ b∈[D],Fre R env g b:=λ b hb=>by rw [one b hb];exact fD
 have rD:=r.reserve fDs hasD
 unfold Internal.inner
 refine ag (am (h _ g A s a rD) (λ v dr dw=>?_) λ Y Y e=>e.elim)
 refine ag (cJ ?_)
 dsimp only
 rw [<- congrFun hf v]
 refine ag (ai (ag (aP (am dw (λ it dq dJ=>?_) λ Y Y e=>e.elim))))
 obtain⟨i,its,P,src,du,dp,xs,ok,okT,e,dy,dz,S,hs,fI,hp,hT,Inv,hok,h0,turn,fin⟩:=dJ
 subst e
 obtain⟨dv,h2,h3⟩:=dz.unreserve hasD (λ b hb=>(fDs b hb).R) r.baseR r.fr.free λ b hb=>(fDs b hb).own
 have fc:dq.heap.PlainList D items:=⟨nD,(h2 D (.head _)).trans hoD⟩
 have hne:D∉its:=λ hb=>by
  have:=(fI D hb).R
  rw [zbr (.head _),hoD]at this
  cases this
 have fI':∀ b∈its,Fre R env du b:=λ b hb=>(fI b hb).unreserve' (by
  have:=(fI b hb).R
  rw [zai λ q=>hne (one b q▸hb)]at this
  exact this)
 have run:∀ {Res:Result->Shared->Prop},(∀ g' ys' dm dl s' items',du.le g'->Rep X R env dm g' dl s'->Fre R env g' D->s'.heap.PlainList D items'->VRs g' ys' items'.toList->Inv xs.length ys' dm dl->Res (.ok .next) s') ->
   codeAny (model X.prog X.w) A (.compLoop (.ListComp elt [⟨ee,ef,er,0⟩,⟨dO,dQ,dP,0⟩] scope pos) 1 (.ref i) (.ref D) env) Res dq:=λ hfin =>
  zc5 S (gc:=⟨dO,dQ,dP,0⟩) hT Inv (turn2 ..) hok (λ R' Y i z ys dm dl hz hi=>AT.mono (turn R' i z ys dm dl hz hi) λ dN dp hw=>WIfs.mono hw λ b dt q9=>by obtain⟨q1,q2⟩:=q9;exact⟨λ e=>BodyOk.app (q1 e),q2⟩) a dv hs fI' (h3 D (.head _)) hne hp fc (hv.mono dy) h0 hfin
 have fin':∀ g' ys' dm dl s' items',du.le g'->Rep X R env dm g' dl s'->Fre R env g' D->s'.heap.PlainList D items'->VRs g' ys' items'.toList->Inv xs.length ys' dm dl ->
   wpAny (model X.prog X.w) A (pure PUnit.unit:Sem PUnit) (λ Y s'=>BPst X R env g D Q s') (λ Y Y=>False) s' :=
  λ g' ys' dm dl s' items' le' r' f' hl' hv' inv'=>ai ⟨g',dm,dl,items',ys',dy.trans le',r',f',hl',hv',fin _ _ _ inv'⟩
 refine ag (wpAny_runOwn ?_)
 exact compStart2 (run fin') (am (S.self hp (run fin')) (λ Y Y h=>h) λ Y Y e=>e.elim)
end
section
variable {X:Ctx}{l:Nat}{R:Nat->Option Obj}{env env2:Env}{ρ dH:Loc}{g g':Gh}{μ dl:Mem}{s s2 s':Shared}
theorem W.comp2 {elt target iter dO dQ:Expr}{ifs dP:List Expr}{scope:Scope}{pos:Pos}{Q:V->Mem->Prop}(c:CompOk scope env)
  (h:WIt X l R env ρ μ iter (CoT X l env ρ scope target ifs (λ D env'=>inner (.ListComp elt [⟨target,iter,ifs,0⟩,⟨dO,dQ,dP,0⟩] scope pos) ⟨dO,dQ,dP,0⟩ (.ref D) env') λ ys dl=>NewList dl ys Q))
  (hf:(λ x=>pure x)=foldedSetIterable iter env:=by exact rfl):W X l R env ρ μ (.ListComp elt [⟨target,iter,ifs,0⟩,⟨dO,dQ,dP,0⟩] scope pos) Q:=by
 intro g A s a r
 rw [eval_ListComp]
 exact zcx c (λ Y Y Y=>turn1 ..) h a r (λ Y Y Y e=>zhc e) hf
end
section
variable {X:Ctx}{l:Nat}{R:Nat->Option Obj}{env env2:Env}{ρ dH:Loc}{g g':Gh}{μ dl:Mem}{s s2 s':Shared}
theorem zeH {y:Str}{py:Pos}{Q:Fl->Loc->Mem->Prop}{A:Around}{D C:Nat}(hk:env.kindOf y=some .local)(e:CEnd X R env ρ g (λ ys dl=>NewList dl ys λ x dR=>∃ dL,Up ρ y x dL/\Q .next dL dR) D C s) :
  compPost (model X.prog X.w) A (λ Y Y=>False) (some (assign (.Name y py) env)) (λ Y s'=>SPst X R env g Q .next s') (.ref D) C (.ok .next) s:=by
 obtain⟨g',dl,ys',items',m,le,r5,fD,fC,ne,hm,⟨nD,hoD⟩,hv,q⟩:=e
 refine E32 (id hm) λ oC oC1 oC2 hoC oC3=>?_
 have oneC:∀ b∈[C],b=C:=λ b hb=>List.mem_singleton.mp hb
 have hasC:∀ b∈[C],∃ o,s.heap.get? b=some o:=λ b hb=>by rw [oneC b hb];exact⟨_,hoC⟩
 have fCs:∀ b∈[C],Fre R env g' b:=λ b hb=>by rw [oneC b hb];exact fC
 have rC:=r5.reserve fCs hasC
 have fDr:Fre (Internal.reserve R s.heap [C]) env g' D:=Fre.reserve fD (λ h=>ne (oneC _ h))
 obtain⟨g2,dA,le2,r7,x,vx,q8⟩:=rC.adoptLst (n:=D) fDr ⟨nD,hoD⟩ hv q;refine E12 q8 λ dL u q=>?_;clear q8
 show wpAny _ A (assign (.Name y py) env (.ref D)) _ _ _
 refine wpAny_assign_Name (store r7 vx (.inl hk) u λ s8 r8=>?_)
 obtain⟨r9,hC9,fC9⟩:=r8.unreserve hasC (λ b hb=>(fCs b hb).R) r5.baseR r5.fr.free λ b hb=>(fCs b hb).own
 refine⟨m,hm.at' λ o e=>(hC9 _ (.head _)).trans e,λ h' hsb'=>?_⟩
 have r10:Rep X R env dL g2 dA { s8 with heap:=h' }:=r9.but (it:=C) (fC9 _ (.head _)) (λ b o ne e=>(hsb'.2 b ne).trans e) rfl rfl rfl
 exact⟨g2,dL,dA,.next,le.trans le2,r10,rfl,q⟩
theorem XS.asgComp {y:Str}{py spos:Pos}{elt target iter:Expr}{ifs:List Expr}{scope:Scope}{pos:Pos}{Q:Fl->Loc->Mem->Prop}(hk:env.kindOf y=some .local)(c:CompOk scope env)
  (h:WIt X l R env ρ μ iter (KCo X l env ρ scope target ifs elt λ ys dl=>NewList dl ys λ x dR=>∃ dL,Up ρ y x dL/\Q .next dL dR))
  (hf:(λ x=>pure x)=foldedSetIterable iter env:=by exact rfl) (hsw:pure true=swapsWith (.ListComp elt [⟨target,iter,ifs,0⟩] scope pos) (some (.Name y py)) spos.line env:=by exact rfl):XS X l R env ρ μ (.Assign [.Name y py] (.ListComp elt [⟨target,iter,ifs,0⟩] scope pos) spos) Q:=by
 intro g A s a r
 show wpAny _ _ (exec _ env) _ _ _
 rw [exec_Assign_Name_used _ _ _ _ hsw.symm]
 refine ag (cJ (ag ?_))
 show wpAny _ A (do let _ <- comprehension (.ListComp elt [⟨target,iter,ifs,0⟩] scope pos) scope env _ (newList []) false (eval iter env) (some (assign (.Name y py) env))) _ _ s
 exact ag (am (zcx (use:=some (assign (.Name y py) env)) (Qf:=λ Y s'=>SPst X R env g Q .next s') c (λ Y Y Y=>last1 ..) (h.mono λ Y Y Y Y q=>q.t) a r (λ Y Y Y e=>zeH hk e) hf) (λ Y s' hq=>ai (ai hq)) λ Y Y e=>e)
theorem XS.asgComp2 {y:Str}{py spos:Pos}{elt target iter dO dQ:Expr}{ifs dP:List Expr}{scope:Scope}{pos:Pos}{Q:Fl->Loc->Mem->Prop}(hk:env.kindOf y=some .local)(c:CompOk scope env)
  (h:WIt X l R env ρ μ iter (CoT X l env ρ scope target ifs (λ D env'=>inner (.ListComp elt [⟨target,iter,ifs,0⟩,⟨dO,dQ,dP,0⟩] scope pos) ⟨dO,dQ,dP,0⟩ (.ref D) env') λ ys dl=>NewList dl ys λ x dR=>∃ dL,Up ρ y x dL/\Q .next dL dR))
  (hf:(λ x=>pure x)=foldedSetIterable iter env:=by exact rfl) (hsw:pure true=swapsWith (.ListComp elt [⟨target,iter,ifs,0⟩,⟨dO,dQ,dP,0⟩] scope pos) (some (.Name y py)) spos.line env:=by exact rfl):XS X l R env ρ μ (.Assign [.Name y py] (.ListComp elt [⟨target,iter,ifs,0⟩,⟨dO,dQ,dP,0⟩] scope pos) spos) Q:=by
 intro g A s a r
 show wpAny _ _ (exec _ env) _ _ _
 rw [exec_Assign_Name_used _ _ _ _ hsw.symm]
 refine ag (cJ (ag ?_))
 show wpAny _ A (do let _ <- comprehension (.ListComp elt [⟨target,iter,ifs,0⟩,⟨dO,dQ,dP,0⟩] scope pos) scope env _ (newList []) false (eval iter env) (some (assign (.Name y py) env))) _ _ s
 exact ag (am (zcx (use:=some (assign (.Name y py) env)) (Qf:=λ Y s'=>SPst X R env g Q .next s') c (λ Y Y Y=>turn1 ..) h a r (λ Y Y Y e=>zeH hk e) hf) (λ Y s' hq=>ai (ai hq)) λ Y Y e=>e)
end
section
variable {X:Ctx}{l:Nat}{R:Nat->Option Obj}{env:Env}{ρ:Loc}{μ:Mem}
theorem XB.asgC {y:Str}{py spos pos:Pos}{elt target iter:Expr}{ifs:List Expr}{scope:Scope}{b:List Stmt}{Q:Fl->Loc->Mem->Prop}
  (h:XS X l R env ρ μ (.Assign [.Name y py] (.ListComp elt [⟨target,iter,ifs,0⟩] scope pos) spos) λ fl dm dl=>fl = .next/\XB X l R env dm dl b Q):XB X l R env ρ μ (.Assign [.Name y py] (.ListComp elt [⟨target,iter,ifs,0⟩] scope pos) spos :: b) Q:=bJ h
theorem CV.isspace {x:Str}{Q:V->Mem->Prop}(q:Q (.bool (Txt.isspace x)) μ):CV X l R env ρ μ (.builtin "str.isspace") [.str x] Q:=cv1 λ g v ⟨t,e⟩ A s ao r=>by
 subst e;exact SC.isspace ⟨g,μ,.rfl,zag r _,.bool _,rfl,q⟩
theorem CV.lenSet {b:Bool}{xs:List V}{Q:V->Mem->Prop}(hb:b = !byText X.w)(hz:xs.length<=sizeLine)(q:Q (.int xs.length) μ):CV X l R env ρ μ (.builtin "len") [.set b xs] Q:=cv1 λ g v vr A s ao r=>by
 subst hb
 obtain⟨a,es,ep,t,rfl,ho,hf,-,-,hv,-⟩:=r.setE vr
 have hl:xs.length=es.size:=by have:=hv.length;simpa using this
 have hz':es.size<=16777216:=by rw [<- hl];exact hz
 refine call_len_set ho ⟨rfl,rfl,rfl⟩ rfl hf (by exact nqF ‹_›) ?_
 rw [<- hl]
 exact⟨g,μ,.rfl,zag r _,.int _,⟨_,rfl⟩,q⟩
theorem P2.inS {x y:Str}{Q:V->Mem->Prop}(q:Q (.bool (Txt.contains x y)) μ):P2 X l R env ρ μ (compareOp .In) (.str y) (.str x) Q:=by
 rintro g v u ⟨t,rfl⟩ ⟨t',rfl⟩ A s a r
 exact P.in_str ⟨g,μ,.rfl,r,.bool _,rfl,q⟩
theorem P2.itemS {value slice:Expr}{x:Str}{i:Int}{j:Nat}{c:Nat}{Q:V->Mem->Prop}(h0:-(2 ^ 63)<=i)(h2:i < 2 ^ 63)(hj:seqIndex? i x.cps.size=some j)(hc:x.cps[j]? = some c)(q:Q (.str ⟨#[c]⟩) μ)
  (hs:∀ a b,subscripted slice false a b=operate [a,b] (getItem a b):=by intros;rfl):P2 X l R env ρ μ (subscriptTail value slice) (.str x) (.int i) Q:=by
 rintro g v u ⟨t,rfl⟩ ⟨t',rfl⟩ A s a r
 exact tail_any (typeIs_str s x t) PySem.F.slot_str_getitem.lookup (P.getItem_str (by simp;simp_all) (c:=c) (by rw [show x.length=x.cps.size from rfl,hj];exact hc) ⟨g,μ,.rfl,zag r _,.str _,⟨_,rfl⟩,q⟩) (hs _ _)
end
noncomputable def Ended (X:Ctx)(s:Shared)(Q:V->Mem->Prop)(r:Result)(s':Shared):Prop:=match r with
 | .ok (.ret v)=>(∀ b o,s.heap.get? b=some o->s'.heap.get? b=some o)/\s'.os=s.os/\s'.gens = #[]/\∃ g' x dl,VR g' x v/\Q x dl
 | _=>False
section
variable {X:Ctx}{l:Nat}{s:Shared}{A:Around}{g:Gh}
theorem zge {env:Env}{ρ:Loc}{dw:Heap}{tk:Nat}(hbase:X.base=s.heap)(hos:s.os=X.os)(hdr:s.drawn=X.drawn)(hgen:s.gens = #[])(hgm:∀ k,g.mu k=none)(him:∀ a v,g.im a=some v->ImO g s.heap a v)
  (hk:∀ b o,s.heap.get? b=some o->dw.get? b=some o) (hL:env.locals=s.heap.objs.size) (ff:FrOk (λ b=>s.heap.get? b) env ρ g dw):Rep X (λ b=>s.heap.get? b) env ρ g (λ Y=>none) { s with heap:=dw,toks:=tk } where
 baseR b o h:=by rw [hbase]at h;exact h
 res a o h:=hk _ _ h
 above:=by rw [hbase,hL];exact an _
 im a v h:=(him a v h).mono .rfl λ o=>hk a o
 imr a v h:=.inr (by
  rw [hbase]
  have:=(him a v h).lt
  intro e
  cases v with
  | tup l=>obtain⟨_,⟨o,ho,_⟩,_⟩:=him a _ h;rw [e]at ho;cases ho
  | lst l=>obtain⟨_,⟨_,ho⟩,_⟩:=him a _ h;rw [e]at ho;cases ho
  | rng p q=>refine E31 (him a _ h) λ _ _ _ ho=>?_;have ho:s.heap.get? a=some _:=ho;rw [e]at ho;cases ho
  | set b l=>refine E32 (him a _ h) λ _ _ _ ho _=>?_;rw [e]at ho;cases ho
  | _=>exact(him a _ h).elim)
 mu k o h:=by cases h
 dom k _:=hgm k
 sep k k' a d a' d' h:=by rw [hgm]at h;cases h
 off k a d h:=by rw [hgm]at h;cases h
 fr:=ff
 gens:=hgen
 os:=hos
 drawn:=trivial
theorem zh9 {R:Nat->Option Obj}(hR:R=λ b=>s.heap.get? b){env:Env}{Q:V->Mem->Prop}{s':Shared}{fl:Flow}(hos:s.os=X.os)(h:SPst X R env g (Post Q) fl s') :
  Ended X s Q (.ok (.ret (match (generalizing:=false) fl with | .ret v=>v | _=>Value.none))) s':=by
 obtain⟨g',dm,dl,fl',le,r',hfl,q⟩:=h
 subst hR
 have k:∀ b o,s.heap.get? b=some o->s'.heap.get? b=some o:=λ b o h=>r'.res b o h
 induction fl' with
 | next=>cases hfl;exact⟨k,r'.os.trans hos.symm,r'.gens,g',.none,dl,rfl,q⟩
 | ret x=>obtain⟨v,rfl,vr⟩:=hfl;exact⟨k,r'.os.trans hos.symm,r'.gens,g',x,dl,vr,q⟩
theorem zgi {fd:FuncData}{body:List Stmt}{ps:List Str}{args:List V}{f:Nat}{vs:List Value}{Q:V->Mem->Prop}(hbase:X.base=s.heap)(hos:s.os=X.os)(hdr:s.drawn=X.drawn)(hgen:s.gens = #[])(hgm:∀ k,g.mu k=none)(him:∀ a v,g.im a=some v->ImO g s.heap a v)
  (hd1:A.depth < recursionLimit) (a:AOk X (A.deeper (cellEnv fd s.heap.objs.size f)) l) (hvs:VRs g args vs) (hf:fnLook X.K f=some fd) (hb:fd.body = .stmts body) (ok:cellB X.K fd ps=true)
  (bind:∀ vs:List Value,vs.length=ps.length->bindArgs fd ⟨vs,[]⟩=pure (ps.zip vs)) (nd:ps.Nodup) (hl:args.length=ps.length)
  (h:∀ R,XB X l R (cellEnv fd s.heap.objs.size f) (ps.zip args) (λ Y=>none) body (Post Q)):codeAny (model X.prog X.w) A (.call (.ref f) ⟨vs,[]⟩) (Ended X s Q) s:=by
 have kin:X.K.In s.heap:=hbase▸X.kin
 have T:TopRead X.q X.loose X.mg X.mb s.heap:=hbase▸X.top
 refine E12 (zcn hf) λ o ho hdata=>?_
 unfold cellB at ok
 simp only [bl,Bool.or_eq_true,List.all_eq_true,beq_iff_eq,bne_iff_ne]at ok
 obtain⟨⟨⟨⟨ok1,ok2⟩,ok3⟩,ok4⟩,ok5⟩:=ok
 have B:=zix ok1
 have hcl:fd.closure=[]:=by simpa using ok2
 have hlen:vs.length=ps.length:=hvs.length▸hl
 have hin:∀ x∈ps.zip vs,x.1∈ps:=λ x hx=>by
  have:=List.mem_map_of_mem (f:=Prod.fst) hx
  rw [zaZ hlen]at this;exact this
 refine codeAny_call_function hd1 (kin _ _ ho) hdata B.co B.gen hb (codeRec_of kin B.code) (BindsTo.of_eq (bind vs hlen) _ _ _ _ ?_)
 rw [hcl]
 refine wpAny_newFunctionEnv_cells B.kind (λ x hx=>(ok5 _ (hin x hx)).imp id λ e=>⟨e,cellsFrom_some _ _ _ (.inl e)⟩) λ env' he dr x=>?_
 have he':env'=cellEnv fd s.heap.objs.size f:=he
 rw [he']at x
 rw [he']
 clear he he' env'
 refine E22 (x.done) λ dw tk q9 hk=>?_;subst q9
 refine⟨T.nolimit.keeps hk,codeAny_func ?_⟩
 have nC:∀ {n:Nat},s.heap.objs.size<=n->s.heap.get? n=none:=λ {n} hn=>by
  induction e:s.heap.get? n with
  | none=>rfl
  | some o=>exact absurd (aO e) (Nat.not_lt.mpr hn)
 have hL:(cellEnv fd s.heap.objs.size f).locals=s.heap.objs.size:=rfl
 have ck:∀ x c,(cellEnv fd s.heap.objs.size f).cells.lookup x=some c->(cellEnv fd s.heap.objs.size f).kindOf x=some .cell:=λ x c e=>by
  rcases zbd _ _ _ (zad e)with h | h
  ·exact ok4 _ h
  ·cases h
 have ca:∀ x c,(cellEnv fd s.heap.objs.size f).cells.lookup x=some c->s.heap.objs.size < c:=λ y c e=>x.above y c (zad e)
 have cc:∀ y,(cellEnv fd s.heap.objs.size f).kindOf y=some .cell->∃ c,(cellEnv fd s.heap.objs.size f).cells.lookup y=some c:=λ y e=>Option.isSome_iff_exists.mp (cellsFrom_some _ _ _ (.inl e))
 have kf:∀ y,(cellEnv fd s.heap.objs.size f).kindOf y=some .free->False:=λ y e=>ok3 _ (zad e) rfl
 have imn:∀ n,s.heap.objs.size<=n->g.im n=none:=λ n hn=>by
  induction e:g.im n with
  | none=>rfl
  | some v=>exact absurd (him n v e).lt (Nat.not_lt.mpr hn)
 have ownC:∀ a,Own (λ b=>s.heap.get? b) (cellEnv fd s.heap.objs.size f) a->s.heap.objs.size<=a:=λ a h=>by
  rcases h with h | ⟨_,y,e,hc⟩
  ·rw [h,hL];exact an _
  ·exact az (ca _ _ hc)
 have ff:FrOk (λ b=>s.heap.get? b) (cellEnv fd s.heap.objs.size f) (ps.zip args) g dw:=by
  refine⟨B.kind,B.globals,B.builtins,⟨_,x.toInCall.ns⟩,λ y e=>?_,λ y z c e h1 h2 Y=>name_of_addr x.apart (zad h1) (zad h2),λ y c e hc=>?_,λ b hb=>?_,λ Y y c e hc=>nC (az (ca _ _ hc)),λ y c e=>(kf y e).elim,λ y c hc=>.inl (ck y c hc),by rw [zaZ hl];exact nd,λ p hp=>?_⟩
  ·obtain⟨c,hc⟩:=cc y e;exact⟨c,_,hc,x.cell y c hc⟩
  ·rw [hL];exact bu (ca _ _ hc)
  ·have hb:=ownC b hb
   exact⟨nC hb,imn _ hb,λ i p d h=>by rw [hgm]at h;cases h⟩
  ·refine E12 (zdB (ps:=ps) hvs p hp) λ v hv vr=>?_
   refine⟨v,?_,vr⟩
   have nd':((ps.zip vs).map (·.1)).Nodup:=by rw [zaZ hlen];exact nd
   rcases ok5 _ (hin _ hv)with e | e
   ·exact .inl ⟨e,_,x.toInCall.ns,ze1 nd' (.inl hv) e⟩
   ·obtain⟨c,hc⟩:=cc _ e
    have:=x.cell _ c hc
    rw [zeA nd' (.inl hv) e]at this
    exact .inr ⟨.inl e,c,hc,this⟩
 have rc:=zge (tk:=tk) hbase hos hdr hgen hgm him hk hL ff
 refine am (h _ g _ _ a rc) (λ fl s' hh=>?_) λ Y Y e=>e.elim
 exact zh9 rfl hos hh
end
section
variable {X:Ctx}{l:Nat}{R:Nat->Option Obj}{env:Env}{ρ:Loc}{μ:Mem}
end
/-! a comprehension with one cell of its own -/
theorem cells0:∀ (names:List (Str × NameKind))(n:Nat)(h:Heap)(acc:List (Str × Nat)),names.filter (λ x=>x.2 == .cell)=[]->cellsFrom n names acc=acc/\pushCells h names=h
 | [],n,h,acc,_=>⟨rfl,rfl⟩
 | (x,k) :: r,n,h,acc,e=>by
  rw [List.filter_cons]at e
  unfold cellsFrom pushCells
  by_cases hk:(k == NameKind.cell)=true
  ·rw [aB hk]at e;cases e
  ·rw [aw hk]at e
   rw [aw hk,aw hk]
   exact cells0 r n h acc e
theorem cells1 {y:Str}:∀ (names:List (Str × NameKind)) (n:Nat) (h:Heap) (acc:List (Str × Nat)),names.filter (λ x=>x.2 == .cell)=[(y,.cell)]->cellsFrom n names acc=(y,n) :: acc/\pushCells h names=h.push { cls:=.type "cell",data:=.cell none }
 | [],n,h,acc,e=>by cases e
 | (x,k) :: r,n,h,acc,e=>by
  rw [List.filter_cons]at e
  unfold cellsFrom pushCells
  by_cases hk:(k == NameKind.cell)=true
  ·rw [aB hk]at e
   obtain⟨e1,e2⟩:=List.cons.inj e
   cases e1
   rw [aB hk,aB hk]
   exact cells0 r (n+1) _ _ e2
  ·rw [aw hk]at e
   rw [aw hk,aw hk]
   exact cells1 r n h acc e
structure CompOkC (y:Str)(scope:Scope)(env:Env):Prop where
 kind:scope.kind = .function
 names:∀ x∈scope.names,x.2 = .local->scope.names.lookup x.1=some .local
 one:scope.names.filter (λ x=>x.2 == .cell)=[(y,.cell)]
 look:scope.names.lookup y=some .cell
 free:∀ x∈scope.names,x.2 = .free->env.kindOf x.1=some .cell/\scope.names.lookup x.1=some .free
noncomputable def compOkCB (y:Str)(scope:Scope)(env:Env):Bool:=scope.kind == .function && (scope.names.filter (λ x=>x.2 == .cell) == [(y,.cell)]) && (scope.names.lookup y == some .cell) && scope.names.all λ x=>match x.2 with
 | .local=>scope.names.lookup x.1 == some .local
 | .free=>env.kindOf x.1 == some .cell && scope.names.lookup x.1 == some .free
 | _=>true
theorem zh0 {y:Str}{scope:Scope}{env:Env}(h:compOkCB y scope env=true):CompOkC y scope env:=by
 unfold compOkCB at h
 simp only [bl,beq_iff_eq,List.all_eq_true]at h
 obtain⟨⟨⟨h1,h3⟩,h4⟩,h2⟩:=h
 refine⟨h1,λ x hx e=>?_,h3,h4,λ x hx e=>?_⟩ <;> have q:=h2 x hx <;> rw [e]at q
 ·simpa using q
 ·simpa using q
theorem CompOkC.cell {y:Str}{scope:Scope}{env:Env}(c:CompOkC y scope env){x:Str}(h:(x,NameKind.cell)∈scope.names):x=y:=by
 have:(x,NameKind.cell)∈scope.names.filter (λ x=>x.2 == .cell):=List.mem_filter.mpr ⟨h,rfl⟩
 rw [c.one]at this
 have:=List.mem_singleton.mp this
 exact(Prod.mk.injEq .. ▸ this).1
section
variable {X:Ctx}{l:Nat}{R:Nat->Option Obj}{env env2:Env}{ρ dH:Loc}{g g':Gh}{μ dl:Mem}{s s2 s':Shared}
theorem newEnv1 {A:Around}{E:Value->Shared->Prop}{y:Str}{scope:Scope}{cl:List (Str × Nat)}{Q:Env->Shared->Prop}(c:CompOkC y scope env)
  (h:Q { scope,locals:=s.heap.objs.size,globals:=env.globals,cells:=(y,s.heap.objs.size+1) :: cl,qual:=env.qual,func:=none,code:=env.code,frame:=env.frame,builtins:=env.builtins } { s with heap:=(s.heap.push { cls:=.type "dict",data:=.dict #[] }).push { cls:=.type "cell",data:=.cell none } }) :
  wpAny (model X.prog X.w) A (newFunctionEnv scope env.globals cl [] env.qual none .none (some env)) Q E s:=by
 simp only [newFunctionEnv,Option.isSome_some,if_true]
 refine ag (wpAny_alloc ?_)
 refine ag (wpAny_layCells _ (λ name kind cells=>by cases hkc:kind == NameKind.cell <;> simp [hkc]) _ _ _ _ ?_)
 obtain⟨e1,e2⟩:=cells1 scope.names ({ s with heap:=s.heap.push { cls:=.type "dict",data:=.dict #[] } }:Shared).heap.objs.size (s.heap.push { cls:=.type "dict",data:=.dict #[] }) cl c.one
 rw [e1,e2,show ({ s with heap:=s.heap.push { cls:=.type "dict",data:=.dict #[] } }:Shared).heap.objs.size=s.heap.objs.size+1 from Heap.size_push ..]
 rw [List.forIn_nil]
 exact ag (ai (ai h))
set_option tactic.hygienic true in
theorem zgk {y:Str}{scope:Scope}(c:CompOkC y scope env)(r:Rep X R env ρ g μ s){cl:List (Str × Nat)}(hcl:∀ n,cl.lookup n=if (n,NameKind.free)∈scope.names then env.cells.lookup n else none){C:Nat}(hC:s.heap.objs.size<=C)
  (k:∀ a o,s.heap.get? a=some o->s2.heap.get? a=some o) (hn:s2.heap.Ns C λ Y=>none) (hcell:s2.heap.IsCell (C+1) none) {dW:Loc} (eB:∀ p∈dW,p∈ρ/\(p.1,NameKind.free)∈scope.names) (hnd:(dW.map (·.1)).Nodup) :
  FrOk (lift R env s.heap) (compEnvC scope ((y,C+1) :: cl) C env) dW g s2.heap/\lift R env s.heap (C+1)=none:=by
 have kc:∀ x,(compEnvC scope ((y,C+1) :: cl) C env).kindOf x=some .cell->x=y∨((x,NameKind.free)∈scope.names/\env.kindOf x=some .cell):=λ x e=>by
  have e:(relabel scope env).names.lookup x=some .cell:=e
  rw [zaE]at e
  refine E12 (Option.map_eq_some_iff.mp e) λ kk h1 h2=>?_
  split at h2
  ·rename_i hc
   simp only [bl,beq_iff_eq]at hc
   exact .inr ⟨by rw [<- hc.1.1];exact zad h1,hc.2⟩
  ·subst h2;exact .inl (c.cell (zad h1))
 have kf:∀ x,(x,NameKind.free)∈scope.names->(compEnvC scope ((y,C+1) :: cl) C env).kindOf x=some .cell:=λ x hx=>by
  show (relabel scope env).names.lookup x=some .cell
  obtain⟨h1,h2⟩:=c.free _ hx rfl
  rw [zaE,h2,Option.map_some,aB]
  simp [r.fr.kind,h1]
 have ny:(y,NameKind.free)∉scope.names:=λ h=>by
  have:=(c.free _ h rfl).2
  rw [c.look]at this;cases this
 have ky:(compEnvC scope ((y,C+1) :: cl) C env).kindOf y=some .cell:=by
  show (relabel scope env).names.lookup y=some .cell
  rw [zaE,c.look,Option.map_some,aw]
  exact Bool.false_ne_true
 have cc:∀ x c',cl.lookup x=some c'->(x,NameKind.free)∈scope.names/\env.cells.lookup x=some c':=λ x c' h=>by
  rw [hcl x]at h
  split at h
  ·rename_i hx;exact⟨hx,h⟩
  ·cases h
 have lk:∀ x c',((y,C+1) :: cl).lookup x=some c'->(x=y/\c'=C+1)∨(x≠y/\cl.lookup x=some c'):=λ x c' h=>by
  rw [bM]at h
  by_cases hx:x=y
  ·subst hx
   simp only [beq_self_eq_true]at h
   cases h;exact .inl ⟨rfl,rfl⟩
  ·have hb:(x == y)=false:=by simpa using hx
   rw [hb]at h;exact .inr ⟨hx,h⟩
 have lk2:∀ x,x≠y->((y,C+1) :: cl).lookup x=cl.lookup x:=λ x hx=>by
  have hb:(x == y)=false:=by simpa using hx
  rw [bM,hb]
 have lky:((y,C+1) :: cl).lookup y=some (C+1):=by rw [bM];simp
 have res:∀ x c',cl.lookup x=some c'->∃ o,lift R env s.heap c'=some o:=λ x c' h=>by
  obtain⟨hx,hc⟩:=cc x c' h
  obtain⟨hk,_⟩:=c.free _ hx rfl
  cases hR:R c' with
  | some o=>exact⟨o,r.lift_some hR⟩
  | none =>
   refine E22 (r.fr.cell x hk) λ c2 v h2 q7=>?_;obtain⟨o,ho,_⟩:=q7
   rw [hc]at h2;cases h2
   exact⟨o,by rw [zcp (.inr ⟨hR,x,hk,hc⟩)];exact ho⟩
 have nD:∀ {n:Nat},s.heap.objs.size<=n->lift R env s.heap n=none:=λ {n} hn=>by
  rw [zcc λ q=>absurd (r.own_lt q) (Nat.not_lt.mpr hn)]
  exact r.R_none hn
 have nC:=nD hC
 have nC1:=nD (aQ hC)
 have ownC:∀ a,Own (lift R env s.heap) (compEnvC scope ((y,C+1) :: cl) C env) a->a=C∨a=C+1:=λ a h=>by
  rcases h with h | ⟨h1,x,e,hx⟩
  ·exact .inl h
  ·rcases lk x a hx with ⟨_,q⟩ | ⟨_,q⟩
   ·exact .inr q
   ·obtain⟨o,ho⟩:=res x a q;rw [h1]at ho;cases ho
 have fresh:∀ a,a=C∨a=C+1->s.heap.objs.size<=a:=λ a h=>by rcases h with rfl | rfl <;> lia
 refine⟨⟨c.kind,r.fr.glob,r.fr.blt,⟨_,hn⟩,λ x e=>?_,λ x z c' e h1 h2 h3=>?_,λ x c' e h=>?_,λ a h=>?_,λ h=>(by cases h),λ x c' e h=>?_,λ x c' h=>?_,hnd,λ p hp=>?_⟩,nC1⟩
 ·by_cases hxy:x=y
  ·subst hxy;exact⟨C+1,none,lky,hcell⟩
  ·obtain⟨hx,hk⟩:=(kc x e).resolve_left hxy
   refine E22 (r.fr.cell x hk) λ c' v hc q7=>?_;obtain⟨o,ho,hd⟩:=q7
   exact⟨c',v,(lk2 x hxy).trans (by rw [hcl x,aB hx];exact hc),o,k _ _ ho,hd⟩
 ·rcases lk x c' h1 with ⟨q1,q2⟩ | ⟨_,q⟩
  ·rcases lk z c' h2 with ⟨q3,_⟩ | ⟨_,q3⟩
   ·rw [q1,q3]
   ·obtain⟨o,ho⟩:=res z c' q3;rw [h3]at ho;cases ho
  ·obtain⟨o,ho⟩:=res x c' q;rw [h3]at ho;cases ho
 ·intro he
  have he:c'=C:=he
  rcases lk x c' h with ⟨_,q⟩ | ⟨_,q⟩
  ·rw [he]at q;exact absurd q (aF (bw _))
  ·obtain⟨o,ho⟩:=res x c' q
   rw [he,nC]at ho;cases ho
 ·have hf:=fresh a (ownC a h)
  refine⟨nD hf,r.im_none hf,λ i p d h=>?_⟩
  have:=r.mu_lt h
  constructor <;> lia
 ·have e0:(relabel scope env).names.lookup x=some .free:=e
  have e:=e0
  rw [zaE]at e
  refine E12 (Option.map_eq_some_iff.mp e) λ kk e1 e2=>?_
  split at e2
  ·cases e2
  ·subst e2
   have hf:=kf x (zad e1)
   have:(relabel scope env).names.lookup x=some .cell:=hf
   rw [e0]at this;cases this
 ·rcases lk x c' h with ⟨q,_⟩ | ⟨_,q⟩
  ·rw [q];exact .inl ky
  ·exact .inl (kf x (cc x c' q).1)
 ·obtain⟨h1,h2⟩:=eB p hp
  refine E12 (r.fr.vals p h1) λ val z vr=>?_
  obtain⟨hk,_⟩:=c.free _ h2 rfl
  have hpy:p.1≠y:=λ q=>ny (q▸h2)
  refine⟨val,.inr ⟨.inl (kf _ h2),?_⟩,vr⟩
  rcases z with ⟨e,_⟩ | ⟨_,c',hc,o,ho,hd⟩
  ·rw [hk]at e;cases e
  ·exact⟨c',(lk2 p.1 hpy).trans (by rw [hcl p.1,aB h2];exact hc),o,k _ _ ho,hd⟩
theorem AT.own {n:Str}{p:Pos}{x:V}{dm:Loc}{c:Nat}{Q:Loc->Mem->Prop}(hk:env.kindOf n=some .cell)(hc:env.cells.lookup n=some c)(hR:R c=none)(u:Up ρ n x dm)(q:Q dm μ):AT X l R env ρ μ (.Name n p) x Q:=by
 intro g v A s vr a r
 refine wpAny_assign_Name ?_
 refine E22 (r.fr.cell n hk) λ c' v₀ hc' ho=>?_
 rw [hc]at hc';cases hc'
 exact wpAny_storeName_cell r.fr.kind hk hc ho λ h' hn hs=>⟨g,dm,μ,.rfl,r.storeC vr hk hc hR u hn hs rfl rfl rfl,q⟩
inductive KCoC (X:Ctx)(l:Nat)(env:Env)(ρ:Loc)(y:Str)(scope:Scope)(target:Expr)(ifs:List Expr)(elt:Expr)(Fin:List V->Mem->Prop)(xs:List V)(ok:Mem->Prop)(okT:Expr->Prop)(dp:Mem):Prop
 | mk (hT:okT target) (dW:Loc) (Inv:Nat->List V->Loc->Mem->Prop) (eB:∀ p∈dW,p∈ρ/\(p.1,NameKind.free)∈scope.names) (hnd:(dW.map (·.1)).Nodup) (hok:∀ i ys dm dl,Inv i ys dm dl->ok dl) (h0:Inv 0 [] dW dp)
   (turn:∀ R' C cl i z ys dm dl,(∃ c,cl.lookup y=some c/\R' c=none)->xs[i]? = some z->Inv i ys dm dl->AT X l R' (compEnvC scope cl C env) dm dl target z λ dN dp=>WIfs X l R' (compEnvC scope cl C env) dN dp ifs λ b dt =>
    (b=true->∀ R'',W X l R'' (compEnvC scope cl C env) dN dt elt λ y dK=>ys.length<=sizeLine/\Inv (i+1) (ys ++ [y]) dN dK)/\(b=false->Inv (i+1) ys dN dt))
   (fin:∀ ys dm dl,Inv xs.length ys dm dl->Fin ys dl):KCoC X l env ρ y scope target ifs elt Fin xs ok okT dp
theorem zhR {y:Str}{elt target iter:Expr}{ifs:List Expr}{scope:Scope}{pos ps:Pos}{Fin:List V->Mem->Prop}{use:Option (Value->Sem Unit)}{Qf:Value->Shared->Prop}(c:CompOkC y scope env)
  (h:WIt X l R env ρ μ iter (KCoC X l env ρ y scope target ifs elt Fin)) {A:Around} (a:AOk X A l) (r:Rep X R env ρ g μ s)
  (hpost:∀ D C s',CEnd X R env ρ g Fin D C s'->compPost (model X.prog X.w) A (λ Y Y=>False) use Qf (.ref D) C (.ok .next) s')
  (hf:(λ x=>pure x)=foldedSetIterable iter env) :
  wpAny (model X.prog X.w) A (comprehension (.ListComp elt [⟨target,iter,ifs,0⟩] scope pos) scope env ps (newList []) false (eval iter env) use) Qf (λ Y Y=>False) s:=by
 have hcells:∀ n,(n,NameKind.free)∈scope.names->∃ c,env.cells.lookup n=some c:=λ n hn=>by
  refine E22 (r.fr.cell n (c.free _ hn rfl).1) λ c' v hc _=>?_;exact⟨c',hc⟩
 refine E12 (zcu hcells) λ cl hclos hcl=>?_
 refine wpAny_comprehension_free (cl:=cl) (use:=use) rfl (λ x=>(congrFun hf x).symm) hclos c.kind c.names ?_
 refine am (h g A s a r) (λ v dr dw=>?_) λ Y Y e=>e
 refine am dw (λ it dq dJ=>?_) λ Y Y e=>e
 obtain⟨i,its,P,src,du,dp,xs,ok,okT,e,dy,dv,S,hs,fI,hp,hT,dW,Inv,eB,hnd,hok,h0,turn,fin⟩:=dJ
 subst e
 refine wpAny_newList ?_
 refine newEnv1 c ?_
 have itlt:∀ b∈its,b < dq.heap.objs.size:=λ b hb=>by obtain⟨o,ho⟩:=S.has _ _ hp b hb;exact aO ho
 have eD:((dq.heap.push { cls:=.type "list",data:=.seq #[] }).objs.size:Nat)=dq.heap.objs.size+1:=Heap.size_push ..
 have eC:(((dq.heap.push { cls:=.type "list",data:=.seq #[] }).push { cls:=.type "dict",data:=.dict #[] }).objs.size:Nat)=dq.heap.objs.size+2:=by rw [Heap.size_push,eD]
 have hn0:=Heap.Ns.new (dq.heap.push { cls:=.type "list",data:=.seq #[] }) (.type "dict")
 rw [eD]at hn0
 have hcell0:(((dq.heap.push { cls:=.type "list",data:=.seq #[] }).push { cls:=.type "dict",data:=.dict #[] }).push { cls:=.type "cell",data:=.cell none }).IsCell (dq.heap.objs.size+1+1) none:=⟨_,by rw [show dq.heap.objs.size+1+1=_ from eC.symm];exact aJ _ rfl,rfl⟩
 have k2:∀ b ob,dq.heap.get? b=some ob->(((dq.heap.push { cls:=.type "list",data:=.seq #[] }).push { cls:=.type "dict",data:=.dict #[] }).push { cls:=.type "cell",data:=.cell none }).get? b=some ob:=λ b ob e =>
  ay _ (ay _ (ay _ e))
 have hDl:(((dq.heap.push { cls:=.type "list",data:=.seq #[] }).push { cls:=.type "dict",data:=.dict #[] }).push { cls:=.type "cell",data:=.cell none }).PlainList dq.heap.objs.size #[] :=
  ⟨0,ay _ (ay _ (aJ _ rfl))⟩
 have hn:=hn0.keeps (h':=((dq.heap.push { cls:=.type "list",data:=.seq #[] }).push { cls:=.type "dict",data:=.dict #[] }).push { cls:=.type "cell",data:=.cell none }) λ b o e=>ay _ e
 dsimp only
 rw [eD]
 generalize (((dq.heap.push { cls:=.type "list",data:=.seq #[] }).push { cls:=.type "dict",data:=.dict #[] }).push { cls:=.type "cell",data:=.cell none })=ed at *
 have d9:Rep X R env ρ du dp { dq with heap:=ed }:=dv.keepAll k2 rfl rfl rfl
 have fD:Fre R env du dq.heap.objs.size:=.newest dv (an _) (zaM dv)
 have fC:Fre R env du (dq.heap.objs.size+1):=.newest dv (bA _) (zaM dv)
 obtain⟨ff,nC1⟩:=zgk (s2:={ dq with heap:=ed }) c dv hcl (C:=dq.heap.objs.size+1) (bA _) k2 hn hcell0 eB hnd
 have rc:=dv.lifted d9 k2 ff (by show X.base.objs.size<=dq.heap.objs.size+1;have:=dv.own_lt (a:=env.locals) (.inl rfl);have:=dv.above;exact nvc ‹_› ‹_›)
 have cne:∀ x c',cl.lookup x=some c'->env.cells.lookup x=some c':=λ x c' h=>by
  rw [hcl x]at h
  split at h
  ·exact h
  ·cases h
 have lky:((y,dq.heap.objs.size+1+1) :: cl).lookup y=some (dq.heap.objs.size+1+1):=by rw [bM];simp
 have up:∀ {n:Nat},Fre R env du n->n≠dq.heap.objs.size+1->n≠dq.heap.objs.size+1+1->Fre (lift R env dq.heap) (compEnvC scope ((y,dq.heap.objs.size+1+1) :: cl) (dq.heap.objs.size+1) env) du n:=λ {n} f hn hn2=>⟨zfL dv f,f.im,f.mu,hn,λ x h=>by
  have h:((y,dq.heap.objs.size+1+1) :: cl).lookup x=some n:=h
  rw [bM]at h
  cases hx:x == y with
  | true=>rw [hx]at h;cases h;exact hn2 rfl
  | false=>rw [hx]at h;exact f.own.2 x (cne x n h)⟩
 have hpl:P ed 0:=S.look _ _ _ (λ b hb=>by obtain⟨o,ho⟩:=S.has _ _ hp b hb;rw [ho];exact k2 _ _ ho) hp
 have fin':codeAny (model X.prog X.w) A (.compLoop (.ListComp elt [⟨target,iter,ifs,0⟩] scope pos) 0 (.ref i) (.ref dq.heap.objs.size) (compEnvC scope ((y,dq.heap.objs.size+1+1) :: cl) (dq.heap.objs.size+1) env)) (compPost (model X.prog X.w) A (λ Y Y=>False) use Qf (.ref dq.heap.objs.size) (dq.heap.objs.size+1)) { dq with heap:=ed }:=by
  refine zc5 S (gc:=⟨target,iter,ifs,0⟩) (body:=appB elt dq.heap.objs.size (compEnvC scope ((y,dq.heap.objs.size+1+1) :: cl) (dq.heap.objs.size+1) env)) hT Inv (last1 ..) hok (λ R' hR i z ys dm dl hz hi=>AT.mono (turn R' _ _ i z ys dm dl ⟨_,lky,hR y _ lky nC1⟩ hz hi) λ dN dp hw=>WIfs.mono hw λ b dt q=>⟨λ e=>BodyOk.app λ R''=>q.1 e R'',q.2⟩) a rc hs (λ b hb=>up (fI b hb) (by have:=itlt b hb;exact nsy ‹_›) (by have:=itlt b hb;lia)) (up fD (by lia) (by lia)) (λ hb=>by have:=itlt _ hb;exact bj _ ‹_›) hpl hDl .nil h0 ?_
  intro g' ys' dm dl s' items' le' r' fD' hl' hv' inv'
  obtain⟨m,hm⟩:=r'.fr.ns
  have ownC:=r'.fr.own (dq.heap.objs.size+1) (.inl rfl)
  exact hpost _ _ _ ⟨g',dl,ys',items',m,dy.trans le',dv.lower r' le',⟨fD.R,fD'.im,fD'.mu,fD.own⟩,⟨fC.R,ownC.2.1,ownC.2.2,fC.own⟩,ze2 _,hm,hl',hv',fin ys' dm dl inv'⟩
 exact codeAny_compStart_list fin' (am (S.self hpl fin') (λ Y Y h=>h) λ Y Y e=>e.elim)
theorem XS.asgCompC {y v:Str}{py spos:Pos}{elt target iter:Expr}{ifs:List Expr}{scope:Scope}{pos:Pos}{Q:Fl->Loc->Mem->Prop}(hk:env.kindOf y=some .local)(c:CompOkC v scope env)
  (h:WIt X l R env ρ μ iter (KCoC X l env ρ v scope target ifs elt λ ys dl=>NewList dl ys λ x dR=>∃ dL,Up ρ y x dL/\Q .next dL dR))
  (hf:(λ x=>pure x)=foldedSetIterable iter env:=by exact rfl) (hsw:pure true=swapsWith (.ListComp elt [⟨target,iter,ifs,0⟩] scope pos) (some (.Name y py)) spos.line env:=by exact rfl):XS X l R env ρ μ (.Assign [.Name y py] (.ListComp elt [⟨target,iter,ifs,0⟩] scope pos) spos) Q:=by
 intro g A s a r
 show wpAny _ _ (exec _ env) _ _ _
 rw [exec_Assign_Name_used _ _ _ _ hsw.symm]
 refine ag (cJ (ag ?_))
 show wpAny _ A (do let _ <- comprehension (.ListComp elt [⟨target,iter,ifs,0⟩] scope pos) scope env _ (newList []) false (eval iter env) (some (assign (.Name y py) env))) _ _ s
 exact ag (am (zhR (use:=some (assign (.Name y py) env)) (Qf:=λ Y s'=>SPst X R env g Q .next s') c h a r (λ Y Y Y e=>zeH hk e) hf) (λ Y s' hq=>ai (ai hq)) λ Y Y e=>e)
end
theorem zgW:MethOk "list" "list.extend" "extend":=⟨PySem.F.plainAttrs_list,PySem.F.slot_list_extend,PySem.F.type_list_extend⟩
theorem zaj:MethOk "list" "list.append" "append":=⟨PySem.F.plainAttrs_list,PySem.F.slot_list_append,PySem.F.type_list_append⟩
theorem zhT:MethOk "list" "list.pop" "pop":=⟨PySem.F.plainAttrs_list,PySem.F.slot_list_pop,PySem.F.type_list_pop⟩
theorem zkp:MethOk "dict" "dict.pop" "pop":=⟨PySem.F.plainAttrs_dict,PySem.F.slot_dict_pop,PySem.F.type_dict_pop⟩
theorem zkg:MethOk "dict" "dict.get" "get":=⟨PySem.F.plainAttrs_dict,PySem.F.slot_dict_get,PySem.F.type_dict_get⟩
theorem zjF:MethOk "dict" "dict.setdefault" "setdefault":=⟨PySem.F.plainAttrs_dict,PySem.F.slot_dict_setdefault,PySem.F.type_dict_setdefault⟩
theorem zie:MethOk "str" "str.isspace" "isspace":=⟨PySem.F.plainAttrs_str,PySem.F.slot_str_isspace,PySem.F.type_str_isspace⟩
theorem Mem.get_ne {μ:Mem}{j k:Id}{o:MO}(h:j≠k):(μ.set k o) j=μ j:=by simp [Mem.set,h]
theorem Mem.get_eq {μ:Mem}{k:Id}{o:MO}:(μ.set k o) k=some o:=by simp [Mem.set]
theorem Up.ex:∀ (ρ:Loc)(x:Str)(v:V),∃ dm,Up ρ x v dm
 | [],x,v=>⟨_,.new⟩
 | (y,w) :: ρ,x,v=>by
  by_cases h:x=y
  ·subst h;exact⟨_,.here⟩
  ·obtain⟨dm,u⟩:=Up.ex ρ x v;exact⟨_,.there h u⟩
theorem Up.lk {ρ dm:Loc}{x:Str}{v:V}(u:Up ρ x v dm):Lk dm x v:=by
 induction u with
 | here=>exact .here
 | new=>exact .here
 | there _ _ ih=>exact .there ih
theorem Up.lk' {ρ dm:Loc}{x y:Str}{v w:V}(u:Up ρ x v dm)(h:Lk ρ y w)(hy:y≠x):Lk dm y w:=by
 induction u with
 | here=>exact .there (h.inv0.resolve_left λ e=>hy e.1)
 | new=>exact h.inv0.elim
 | there _ _ ih=>exact h.inv0.elim (λ ⟨e1,e2⟩=>by subst e1 e2;exact .here) λ h=>.there (ih h hy)
theorem Up.e1 (ρ:Loc)(x:Str)(v:V){G:Prop}(k:∀ dE,Up ρ x v dE->G):G:=bb (Up.ex ρ x v) k
theorem Up.e2 (ρ:Loc)(x0:Str)(v0:V)(x1:Str)(v1:V){G:Prop}(k:∀ dE,Up ρ x0 v0 dE->∀ dH,Up dE x1 v1 dH->G):G:=Up.e1 ρ x0 v0 λ dE u=>Up.e1 dE x1 v1 (k dE u)
theorem Up.e3 (ρ:Loc)(x0:Str)(v0:V)(x1:Str)(v1:V)(x2:Str)(v2:V){G:Prop}(k:∀ dE,Up ρ x0 v0 dE->∀ dH,Up dE x1 v1 dH->∀ dX,Up dH x2 v2 dX->G):G:=Up.e1 ρ x0 v0 λ dE u=>Up.e2 dE x1 v1 x2 v2 (k dE u)
theorem Up.e4 (ρ:Loc)(x0:Str)(v0:V)(x1:Str)(v1:V)(x2:Str)(v2:V)(x3:Str)(v3:V){G:Prop}(k:∀ dE,Up ρ x0 v0 dE->∀ dH,Up dE x1 v1 dH->∀ dX,Up dH x2 v2 dX->∀ ea,Up dX x3 v3 ea->G):G:=Up.e1 ρ x0 v0 λ dE u=>Up.e3 dE x1 v1 x2 v2 x3 v3 (k dE u)
theorem Up.e5 (ρ:Loc)(x0:Str)(v0:V)(x1:Str)(v1:V)(x2:Str)(v2:V)(x3:Str)(v3:V)(x4:Str)(v4:V){G:Prop}(k:∀ dE,Up ρ x0 v0 dE->∀ dH,Up dE x1 v1 dH->∀ dX,Up dH x2 v2 dX->∀ ea,Up dX x3 v3 ea->∀ d0,Up ea x4 v4 d0->G):G:=Up.e1 ρ x0 v0 λ dE u=>Up.e4 dE x1 v1 x2 v2 x3 v3 x4 v4 (k dE u)
theorem cell1 {ρ:Loc}{ks:List (Str × NameKind)}{x:Str}{v:V}(h:Lk ρ x v)(k:(x,NameKind.free)∈ks:=by decide):∀ p∈[(x,v)],p∈ρ/\(p.1,NameKind.free)∈ks:=λ _ hp=>List.mem_singleton.mp hp▸⟨h.mem,k⟩
theorem cell2 {ρ:Loc}{ks:List (Str × NameKind)}{x y:Str}{v w:V}(h:Lk ρ x v)(h':Lk ρ y w)(k:(x,NameKind.free)∈ks:=by decide)(k':(y,NameKind.free)∈ks:=by decide):∀ p∈[(x,v),(y,w)],p∈ρ/\(p.1,NameKind.free)∈ks:=λ _ hp =>
 (List.mem_cons.mp hp).elim (λ e=>e▸⟨h.mem,k⟩) λ hp=>List.mem_singleton.mp hp▸⟨h'.mem,k'⟩
theorem mapE {f:α->β}{L:List α}{j:Nat}{z:β}(h:(L.map f)[j]? = some z)(C:β->Prop)(k:∀ x,L[j]? = some x->C (f x)):C z:=by
 rw [aD]at h
 obtain⟨x,hx,rfl⟩:=Option.map_eq_some_iff.mp h
 exact k x hx
noncomputable def Id.kd:Id->Nat
 | .h _=>0
 | .lot _=>1
 | .usr _=>2
 | .t _=>3
 | .w _=>4
theorem Id.ne {i j:Id}(h:Nat.beq i.kd j.kd=false):i≠j:=λ e=>by
 subst e
 rw [Nat.beq_refl]at h;cases h
theorem zcg (a b:Nat):(min a b=a/\max a b=b)∨(min a b=b/\max a b=a) :=
 (Nat.le_total a b).imp (λ h=>⟨Nat.min_eq_left h,Nat.max_eq_right h⟩) λ h=>⟨Nat.min_eq_right h,Nat.max_eq_left h⟩
theorem ziQ (a b:Nat):min a b=a∨min a b=b:=(zcg a b).imp And.left And.left
theorem zh8 (a b:Nat):max a b=a∨max a b=b:=(zcg a b).symm.imp And.right And.right
theorem zcY {a b:Nat}:min a b=max a b↔a=b :=
 ⟨λ e=>bV (nT (Nat.le_max_left a b) (e▸bg a b)) (nT (Nat.le_max_right a b) (e▸Nat.min_le_left a b)),λ h=>by subst h;rw [Nat.min_self,Nat.max_self]⟩
theorem zhN {a b:Nat}(h:a≠b):min a b < max a b :=
 aX (nT (Nat.min_le_left a b) (Nat.le_max_left a b)) λ e=>h (zcY.mp e)
section
variable {X:Ctx}{l:Nat}{R:Nat->Option Obj}{env:Env}{ρ:Loc}{μ:Mem}
theorem W.bi {id:Str}{p pos:Pos}{args:List Expr}{Q:V->Mem->Prop}(f:Value)(h:WL X l R env ρ μ args λ xs dt=>CV X l R env ρ dt f xs Q)(hk:env.kindOf id=some .globalImplicit:=by rfl)(hg:nsIn X.K mainGlobals id=some none:=by kernel_rfl)(hv:bootBuiltins id=some f:=by kernel_rfl)(hc:calleeB X.K f=true:=by rfl)
  (hp:true=noStar args:=by exact rfl) (hd:(id == ("__debug__":Str))=false:=by decide) (hn:id ≠ "__name__":=by decide):W X l R env ρ μ (.Call (.Name id p) args [] pos) Q :=
 de (W.builtin hk hg hv ⟨rfl,h⟩ hd hn) hc hp
end
abbrev av:=@Mem.get_ne
abbrev aI:=@Id.ne
abbrev aN:=@Mem.get_eq
abbrev cB:=@W.bi
abbrev cD:=@Up.e1
section
variable {X:Ctx}{l:Nat}{R:Nat->Option Obj}{env:Env}{μ:Mem}{b:List Stmt}{Q:Fl->Loc->Mem->Prop}
theorem XB.loc2 {x0 x1:Str}{v0 v1:V}(h:∀ ρ,Lk ρ x0 v0->Lk ρ x1 v1->XB X l R env ρ μ b Q):XB X l R env [(x0,v0),(x1,v1)] μ b Q :=
 h _ .here (.there .here)
theorem XB.loc3 {x0 x1 x2:Str}{v0 v1 v2:V}(h:∀ ρ,Lk ρ x0 v0->Lk ρ x1 v1->Lk ρ x2 v2->XB X l R env ρ μ b Q):XB X l R env [(x0,v0),(x1,v1),(x2,v2)] μ b Q :=
 h _ .here (.there .here) (.there (.there .here))
theorem XB.loc4 {x0 x1 x2 x3:Str}{v0 v1 v2 v3:V}(h:∀ ρ,Lk ρ x0 v0->Lk ρ x1 v1->Lk ρ x2 v2->Lk ρ x3 v3->XB X l R env ρ μ b Q):XB X l R env [(x0,v0),(x1,v1),(x2,v2),(x3,v3)] μ b Q :=
 h _ .here (.there .here) (.there (.there .here)) (.there (.there (.there .here)))
theorem XB.loc7 {x0 x1 x2 x3 x4 x5 x6:Str}{v0 v1 v2 v3 v4 v5 v6:V}(h:∀ ρ,Lk ρ x0 v0->Lk ρ x1 v1->Lk ρ x2 v2->Lk ρ x3 v3->Lk ρ x4 v4->Lk ρ x5 v5->Lk ρ x6 v6->XB X l R env ρ μ b Q):XB X l R env [(x0,v0),(x1,v1),(x2,v2),(x3,v3),(x4,v4),(x5,v5),(x6,v6)] μ b Q :=
 h _ .here (.there .here) (.there (.there .here)) (.there (.there (.there .here))) (.there (.there (.there (.there .here)))) (.there (.there (.there (.there (.there .here))))) (.there (.there (.there (.there (.there (.there .here))))))
end
theorem lenS {n:Nat}{vs:List Value}(h:vs.length=n+1):∃ a r,vs=a :: r/\r.length=n:=by
 induction vs with
 | nil=>cases h
 | cons a r=>exact⟨a,r,rfl,Nat.succ.inj h⟩
theorem len1 {vs:List Value}(h:vs.length=1):∃ a,vs=[a]:=by
 obtain⟨a,r,e,h⟩:=lenS h
 rw [List.eq_nil_of_length_eq_zero h]at e
 exact⟨a,e⟩
theorem len2 {vs:List Value}(h:vs.length=2):∃ a b,vs=[a,b]:=by
 obtain⟨a,r,rfl,h'⟩:=lenS h
 obtain⟨b,rfl⟩:=len1 h'
 exact⟨a,b,rfl⟩
theorem len3 {vs:List Value}(h:vs.length=3):∃ a b c,vs=[a,b,c]:=by
 obtain⟨a,r,rfl,h'⟩:=lenS h
 obtain⟨b,c,rfl⟩:=len2 h'
 exact⟨a,b,c,rfl⟩
theorem len4 {vs:List Value}(h:vs.length=4):∃ a b c d,vs=[a,b,c,d]:=by
 obtain⟨a,r,rfl,h'⟩:=lenS h
 obtain⟨b,c,d,rfl⟩:=len3 h'
 exact⟨a,b,c,d,rfl⟩
theorem bd1 {fd:FuncData}{p:Str}(h:∀ a:Value,bindArgs fd ⟨[a],[]⟩=pure ([p].zip [a]))(vs:List Value)(e:vs.length=[p].length):bindArgs fd ⟨vs,[]⟩=pure ([p].zip vs):=by
 obtain⟨a,rfl⟩:=len1 e;exact h a
theorem bd2 {fd:FuncData}{p q:Str}(h:∀ a b:Value,bindArgs fd ⟨[a,b],[]⟩=pure ([p,q].zip [a,b]))(vs:List Value)(e:vs.length=[p,q].length):bindArgs fd ⟨vs,[]⟩=pure ([p,q].zip vs):=by
 obtain⟨a,b,rfl⟩:=len2 e;exact h a b
theorem bd3 {fd:FuncData}{p q r:Str}(h:∀ a b c:Value,bindArgs fd ⟨[a,b,c],[]⟩=pure ([p,q,r].zip [a,b,c]))(vs:List Value)(e:vs.length=[p,q,r].length):bindArgs fd ⟨vs,[]⟩=pure ([p,q,r].zip vs):=by
 obtain⟨a,b,c,rfl⟩:=len3 e;exact h a b c
theorem bd4 {fd:FuncData}{p q r t:Str}(h:∀ a b c d:Value,bindArgs fd ⟨[a,b,c,d],[]⟩=pure ([p,q,r,t].zip [a,b,c,d]))(vs:List Value)(e:vs.length=[p,q,r,t].length):bindArgs fd ⟨vs,[]⟩=pure ([p,q,r,t].zip vs):=by
 obtain⟨a,b,c,d,rfl⟩:=len4 e;exact h a b c d
/-! the values of a dict -/
section
variable {X:Ctx}{l:Nat}{R:Nat->Option Obj}{env:Env}{ρ:Loc}{g:Gh}{μ:Mem}{s:Shared}
theorem zim:MethOk "dict" "dict.values" "values":=⟨PySem.F.plainAttrs_dict,PySem.F.slot_dict_values,PySem.F.type_dict_values⟩
theorem CV.values {k j:Id}{es:List (Int × V)}{Q:V->Mem->Prop}(hk:μ k=some (.dI es))(hj:μ j=none)(q:∀ n,Q (.ref j) ((μ.set k (.dF es n)).set j (.vw k))):CV X l R env ρ μ (.builtin "dict.values") [.ref k] Q:=cv1 λ g v vr A s ao r=>by
 refine E42 (r.dictAt (kd:=kI) hk vr) λ a o rs n q9 D=>?_;subst q9
 have r1:Rep X R env ρ g (μ.set k (.dF es n)) s:=r.updMu (s':=s) (o:=.dF es n) D.mu (λ b o Y Y h=>h) (λ m h=>h) ⟨rfl,D.nd,o,rs,D.at_.at_,D.at_.exact_,D.at_.data,D.ens⟩ rfl rfl rfl
 have hkj:k≠j:=λ e=>by rw [e,hj]at hk;cases hk
 have hj1:(μ.set k (.dF es n)) j=none:=(av (cp hkj)).trans hj
 refine bq PySem.F.slot_dict_values D.at_.typeIs' PySem.F.entry_dict_values ?_ (PySem.F.args_dict_values_1 _)
 unfold Builtin.«dict.values»
 refine ag ?_
 unfold Builtin.Dict.noArgs
 refine ag (wpAny_notOrdered_dict D.at_.typeIs' ?_)
 show wpAny _ _ (pure a) _ _ s
 refine ai ?_
 show wpAny _ _ (Builtin.Dict.showsAll a >>= _) _ _ s
 unfold Builtin.Dict.showsAll
 rw [aw (by rw [D.sys];exact Bool.false_ne_true)]
 refine ag (ai ?_)
 refine ag (wpAny_newObj_type (ai ⟨_,rfl,?_⟩))
 obtain⟨le,r2⟩:=r1.newMu (s':={ s with heap:=s.heap.push { cls:=.type "dict_values",data:=.fields #[.ref a] } }) (i:=j) (o:=.vw k) (a:=s.heap.objs.size) (d:=s.heap.objs.size) hj1 ⟨an _,an _⟩ (λ b o e=>ay _ e)
  ⟨rfl,_,a,aJ _ rfl,rfl,rfl,D.mu⟩ rfl rfl rfl
 exact⟨_,_,le,r2,.ref j,⟨s.heap.objs.size,s.heap.objs.size,rfl,by simp [Gh.newMu]⟩,q n⟩
theorem ziZ {es:List (Int × V)}{rs:List DictEntry}(h:Ens X.w.params g hashInt isI es rs):∃ kvs:List (Int × Value),Pairs (intKind X.prog X.w) rs kvs/\(∀ e∈rs,∃ k,(intKind X.prog X.w).is k e.key=true/\e.hash=(intKind X.prog X.w).hash k)/\kvs.map (·.1)=es.map (·.1)/\VRs g (es.map (·.2)) (kvs.map (·.2)):=by
 induction h with
 | nil=>exact⟨[],.nil,by simp,rfl,.nil⟩
 | cons h1 h2 h3 h4 ih =>
  refine E14 (ih) λ kvs a b c d=>?_
  obtain⟨t,ht⟩:=h2
  have hk:(intKind X.prog X.w).is k e.key=true:=by rw [ht];simp [intKind,Value.isInt]
  refine⟨(k,e.val) :: kvs,.cons hk rfl a,λ e' he=>?_,by rw [aH,aH,c],.cons h3 d⟩
  rcases List.mem_cons.mp he with rfl | he
  ·exact⟨k,hk,h1⟩
  ·exact b e' he
theorem Rep.frozen (r:Rep X R env ρ g μ s){k:Id}{es:List (Int × V)}{n b:Nat}(hk:μ k=some (.dF es n))(hg:g.mu k=some (b,b)):∃ kvs:List (Int × Value),s.heap.DictAt (intKind X.prog X.w) b kvs n/\VRs g (es.map (·.2)) (kvs.map (·.2)):=by
 refine E22 (r.mu _ _ hk) λ a d e y=>?_
 rw [hg]at e;cases e
 refine E03 (y) λ _ nd q7=>?_;obtain⟨o,rs,ho,hx,hd,he⟩:=q7
 refine E14 (ziZ (X:=X) he) λ kvs h1 h2 h3 h4=>?_
 exact⟨kvs,⟨o,rs,ho,hx,hd,λ e he=>h2 e (Array.mem_toList_iff.mpr he),h1,by rw [h3];exact nd⟩,h4⟩
theorem IT.values {k j:Id}{es:List (Int × V)}{n:Nat}:IT X l R env ρ μ (.ref j) (es.map (·.2)) (λ dl=>dl j=some (.vw k)/\dl k=some (.dF es n)) (λ Y=>True):=by
 intro g v A s vr0 ao r q0;refine E02 (q0) λ h1 h2=>?_;clear q0
 refine E22 (r.mu _ _ h1) λ a d hg y=>?_
 apply refE vr0 hg
 obtain⟨rfl,q8⟩:=y;refine E24 q8 λ o b ho hc hd hgk=>?_;clear q8
 refine E12 (r.frozen h2 hgk) λ kvs hm hv=>?_
 have hl:kvs.length=es.length:=by have:=hv.length;simpa using this.symm
 refine wpAny_pyIter_values (knd:=intKind X.prog X.w) ⟨o,ho,hc,hd⟩ hm ?_
 rw [hl]
 refine⟨s.heap.objs.size,[s.heap.objs.size],_,λ g'=>g'.mu k=some (b,b),g,rfl,.rfl,r.push _,.one (P:=λ o i=>o.cls = .type "dict_valueiterator" /\ o.data = .fields #[.ref b,.int i 0,.int es.length 0,.int n 0]) (λ du dC le h=>le.2 _ _ h) (λ o i h=>⟨_,h.1,by decide⟩) ?_ ?_ ?_,hgk,λ a ha=>?_,_,aJ _ rfl,rfl,rfl⟩
 ·intro R env ρ g μ s A l i z o a r vr hx f ho hp hz
  refine E12 (r.frozen hx.2 vr) λ kvs hm hv=>?_
  have hl:kvs.length=es.length:=by have:=hv.length;simpa using this.symm
  refine E12 (hv.get hz) λ w hw wr=>?_
  rw [aD]at hw
  obtain⟨⟨q1,q2⟩,hq,rfl⟩:=Option.map_eq_some_iff.mp hw
  refine wpAny_pyNext_values_item (knd:=intKind X.prog X.w) (i:=i) ⟨o,ho,hp.1,by rw [hl];exact hp.2⟩ hm hq λ h' hi hs=>?_
  refine E13 (hi) λ o' ho' hc' hd'=>?_
  rw [hl]at hd'
  exact⟨q2,o',rfl,r.but f (λ b o ne h=>(hs.2 b ne).trans h) rfl rfl rfl,wr,ho',hc',hd'⟩
 ·intro R env ρ g μ s A l i o a r vr hx f ho hp hz
  refine E12 (r.frozen hx.2 vr) λ kvs hm hv=>?_
  have hl:kvs.length=es.length:=by have:=hv.length;simpa using this.symm
  have hn:kvs[i]? = none:=by
   have h2:=List.getElem?_eq_none_iff.mp hz
   rw [ah]at h2
   exact List.getElem?_eq_none_iff.mpr (by exact nsz ‹_› ‹_›)
  exact wpAny_pyNext_values_end (knd:=intKind X.prog X.w) a.handled ⟨o,ho,hp.1,by rw [hl];exact hp.2⟩ hm hn λ h' hx=>⟨rfl,r.but f (λ b o ne h=>hx b o ne h) rfl rfl rfl⟩
 ·intro A s i o Q ho hp h;exact wpAny_pyIter_valiter ⟨o,ho,hp.1,hp.2⟩ h
 ·cases List.mem_singleton.mp ha;exact .newest r (an _) (zaM r)
end
section
variable {X:Ctx}{l:Nat}{μ:Mem}
theorem zjR {x0:V}{Q:V->Mem->Prop}(h:∀ R L,XB X l R (callEnv zgM L zgK) [("text",x0)] μ zjX (Post Q)):Cs X (l+1) (.ref zgK) [x0] μ Q :=
 bE (ps:=["text"]) (by kernel_rfl) rfl (by kernel_rfl) (bd1 λ _=>rfl) (by decide) rfl h
theorem zgj {x0:V}{Q:V->Mem->Prop}(h:∀ R L,XB X l R (callEnv zdg L zbG) [("self",x0)] μ zgq (Post Q)):Cs X (l+1) (.ref zbG) [x0] μ Q :=
 bE (ps:=["self"]) (by kernel_rfl) rfl (by kernel_rfl) (bd1 λ _=>rfl) (by decide) rfl h
theorem zf9 {x0:V}{Q:V->Mem->Prop}(h:∀ R L,XB X l R (callEnv zdc L zbB) [("self",x0)] μ zgI (Post Q)):Cs X (l+1) (.ref zbB) [x0] μ Q :=
 bE (ps:=["self"]) (by kernel_rfl) rfl (by kernel_rfl) (bd1 λ _=>rfl) (by decide) rfl h
theorem zdQ {x0 x1 x2:V}{Q:V->Mem->Prop}(h:∀ R L,XB X l R (cellEnv zbP L zaA) [("self",x0),("op",x1),("kids",x2)] μ zf8 (Post Q)):Cs X (l+1) (.ref zaA) [x0,x1,x2] μ Q :=
 dk (ps:=["self","op","kids"]) (by kernel_rfl) rfl (by kernel_rfl) (bd3 λ _ _ _=>rfl) (by decide) rfl h
theorem zd2 {x0 x1:V}{Q:V->Mem->Prop}(h:∀ R L,XB X l R (callEnv zbV L zaX) [("self",x0),("op",x1)] μ zdV (Post Q)):Cs X (l+1) (.ref zaX) [x0,x1] μ Q :=
 bE (ps:=["self","op"]) (by kernel_rfl) rfl (by kernel_rfl) (bd2 λ _ _=>rfl) (by decide) rfl h
theorem zih {x0 x1:V}{Q:V->Mem->Prop}(h:∀ R L,XB X l R (callEnv zeg L zbt) [("self",x0),("n",x1)] μ zin (Post Q)):Cs X (l+1) (.ref zbt) [x0,x1] μ Q :=
 bE (ps:=["self","n"]) (by kernel_rfl) rfl (by kernel_rfl) (bd2 λ _ _=>rfl) (by decide) rfl h
theorem zgg {x0 x1:V}{Q:V->Mem->Prop}(h:∀ R L,XB X l R (callEnv zdp L zaS) [("self",x0),("n",x1)] μ zgH (Post Q)):Cs X (l+1) (.ref zaS) [x0,x1] μ Q :=
 bE (ps:=["self","n"]) (by kernel_rfl) rfl (by kernel_rfl) (bd2 λ _ _=>rfl) (by decide) rfl h
theorem zey {x0:V}{Q:V->Mem->Prop}(h:∀ R L,XB X l R (callEnv zce L za8) [("self",x0)] μ zfc (Post Q)):Cs X (l+1) (.ref za8) [x0] μ Q :=
 bE (ps:=["self"]) (by kernel_rfl) rfl (by kernel_rfl) (bd1 λ _=>rfl) (by decide) rfl h
theorem zfg {x0:V}{Q:V->Mem->Prop}(h:∀ R L,XB X l R (callEnv zb7 L zbb) [("self",x0)] μ zeC (Post Q)):Cs X (l+1) (.ref zbb) [x0] μ Q :=
 bE (ps:=["self"]) (by kernel_rfl) rfl (by kernel_rfl) (bd1 λ _=>rfl) (by decide) rfl h
theorem zeG {x0:V}{Q:V->Mem->Prop}(h:∀ R L,XB X l R (callEnv zb8 L zaO) [("self",x0)] μ ze6 (Post Q)):Cs X (l+1) (.ref zaO) [x0] μ Q :=
 bE (ps:=["self"]) (by kernel_rfl) rfl (by kernel_rfl) (bd1 λ _=>rfl) (by decide) rfl h
theorem zeO {x0 x1:V}{Q:V->Mem->Prop}(h:∀ R L,XB X l R (callEnv zb9 L zao) [("self",x0),("a",x1)] μ zeT (Post Q)):Cs X (l+1) (.ref zao) [x0,x1] μ Q :=
 bE (ps:=["self","a"]) (by kernel_rfl) rfl (by kernel_rfl) (bd2 λ _ _=>rfl) (by decide) rfl h
theorem zd5 {x0 x1 x2:V}{Q:V->Mem->Prop}(h:∀ R L,XB X l R (callEnv zbR L zaU) [("self",x0),("a",x1),("b",x2)] μ zd9 (Post Q)):Cs X (l+1) (.ref zaU) [x0,x1,x2] μ Q :=
 bE (ps:=["self","a","b"]) (by kernel_rfl) rfl (by kernel_rfl) (bd3 λ _ _ _=>rfl) (by decide) rfl h
theorem zdv {x0 x1:V}{Q:V->Mem->Prop}(h:∀ R L,XB X l R (callEnv zbo L za4) [("self",x0),("a",x1)] μ zdq (Post Q)):Cs X (l+1) (.ref za4) [x0,x1] μ Q :=
 bE (ps:=["self","a"]) (by kernel_rfl) rfl (by kernel_rfl) (bd2 λ _ _=>rfl) (by decide) rfl h
theorem zdt {x0:V}{Q:V->Mem->Prop}(h:∀ R L,XB X l R (cellEnv zbs L zaz) [("self",x0)] μ zdr (Post Q)):Cs X (l+1) (.ref zaz) [x0] μ Q :=
 dk (ps:=["self"]) (by kernel_rfl) rfl (by kernel_rfl) (bd1 λ _=>rfl) (by decide) rfl h
theorem zeM {x0 x1:V}{Q:V->Mem->Prop}(h:∀ R L,XB X l R (callEnv zb6 L zbc) [("self",x0),("many",x1)] μ zfm (Post Q)):Cs X (l+1) (.ref zbc) [x0,x1] μ Q :=
 bE (ps:=["self","many"]) (by kernel_rfl) rfl (by kernel_rfl) (bd2 λ _ _=>rfl) (by decide) rfl h
theorem zgA {x0:V}{Q:V->Mem->Prop}(h:∀ R L,XB X l R (callEnv zdk L zbH) [("self",x0)] μ zgx (Post Q)):Cs X (l+1) (.ref zbH) [x0] μ Q :=
 bE (ps:=["self"]) (by kernel_rfl) rfl (by kernel_rfl) (bd1 λ _=>rfl) (by decide) rfl h
theorem zgw {x0:V}{Q:V->Mem->Prop}(h:∀ R L,XB X l R (callEnv zdh L zaQ) [("self",x0)] μ zgF (Post Q)):Cs X (l+1) (.ref zaQ) [x0] μ Q :=
 bE (ps:=["self"]) (by kernel_rfl) rfl (by kernel_rfl) (bd1 λ _=>rfl) (by decide) rfl h
theorem zgv {x0 x1:V}{Q:V->Mem->Prop}(h:∀ R L,XB X l R (cellEnv zdi L zbz) [("self",x0),("n",x1)] μ zgB (Post Q)):Cs X (l+1) (.ref zbz) [x0,x1] μ Q :=
 dk (ps:=["self","n"]) (by kernel_rfl) rfl (by kernel_rfl) (bd2 λ _ _=>rfl) (by decide) rfl h
theorem zen {x0 x1 x2:V}{Q:V->Mem->Prop}(h:∀ R L,XB X l R (cellEnv zcf L zaP) [("self",x0),("op",x1),("numbers",x2)] μ zhH (Post Q)):Cs X (l+1) (.ref zaP) [x0,x1,x2] μ Q :=
 dk (ps:=["self","op","numbers"]) (by kernel_rfl) rfl (by kernel_rfl) (bd3 λ _ _ _=>rfl) (by decide) rfl h
theorem zhw {x0 x1:V}{Q:V->Mem->Prop}(h:∀ R L,XB X l R (cellEnv zdA L zaD) [("self",x0),("term",x1)] μ zhz (Post Q)):Cs X (l+1) (.ref zaD) [x0,x1] μ Q :=
 dk (ps:=["self","term"]) (by kernel_rfl) rfl (by kernel_rfl) (bd2 λ _ _=>rfl) (by decide) rfl h
theorem zd7 {x0 x1:V}{Q:V->Mem->Prop}(h:∀ R L,XB X l R (callEnv zbY L zaY) [("self",x0),("n",x1)] μ zd1 (Post Q)):Cs X (l+1) (.ref zaY) [x0,x1] μ Q :=
 bE (ps:=["self","n"]) (by kernel_rfl) rfl (by kernel_rfl) (bd2 λ _ _=>rfl) (by decide) rfl h
theorem zga {x0 x1:V}{Q:V->Mem->Prop}(h:∀ R L,XB X l R (callEnv zdf L zbf) [("self",x0),("n",x1)] μ zgp (Post Q)):Cs X (l+1) (.ref zbf) [x0,x1] μ Q :=
 bE (ps:=["self","n"]) (by kernel_rfl) rfl (by kernel_rfl) (bd2 λ _ _=>rfl) (by decide) rfl h
theorem zdS {x0 x1 x2:V}{Q:V->Mem->Prop}(h:∀ R L,XB X l R (callEnv zbM L zaN) [("self",x0),("a",x1),("b",x2)] μ zdE (Post Q)):Cs X (l+1) (.ref zaN) [x0,x1,x2] μ Q :=
 bE (ps:=["self","a","b"]) (by kernel_rfl) rfl (by kernel_rfl) (bd3 λ _ _ _=>rfl) (by decide) rfl h
theorem zfM {x0 x1 x2 x3:V}{Q:V->Mem->Prop}(h:∀ R L,XB X l R (callEnv zcy L zaH) [("self",x0),("a",x1),("b",x2),("reason",x3)] μ zfZ (Post Q)):Cs X (l+1) (.ref zaH) [x0,x1,x2,x3] μ Q :=
 bE (ps:=["self","a","b","reason"]) (by kernel_rfl) rfl (by kernel_rfl) (bd4 λ _ _ _ _=>rfl) (by decide) rfl h
theorem zgt {x0 x1 x2 x3:V}{Q:V->Mem->Prop}(h:∀ R L,XB X l R (callEnv zdd L zbD) [("self",x0),("a",x1),("b",x2),("reason",x3)] μ zgo (Post Q)):Cs X (l+1) (.ref zbD) [x0,x1,x2,x3] μ Q :=
 bE (ps:=["self","a","b","reason"]) (by kernel_rfl) rfl (by kernel_rfl) (bd4 λ _ _ _ _=>rfl) (by decide) rfl h
theorem ze9 {x0:V}{Q:V->Mem->Prop}(h:∀ R L,XB X l R (callEnv zcd L zas) [("self",x0)] μ zfh (Post Q)):Cs X (l+1) (.ref zas) [x0] μ Q :=
 bE (ps:=["self"]) (by kernel_rfl) rfl (by kernel_rfl) (bd1 λ _=>rfl) (by decide) rfl h
theorem zc3 {x0:V}{Q:V->Mem->Prop}(h:∀ R L,XB X l R (callEnv zbi L zav) [("self",x0)] μ zc2 (Post Q)):Cs X (l+1) (.ref zav) [x0] μ Q :=
 bE (ps:=["self"]) (by kernel_rfl) rfl (by kernel_rfl) (bd1 λ _=>rfl) (by decide) rfl h
theorem zeb {x0:V}{Q:V->Mem->Prop}(h:∀ R L,XB X l R (callEnv zbS L zaw) [("self",x0)] μ zdY (Post Q)):Cs X (l+1) (.ref zaw) [x0] μ Q :=
 bE (ps:=["self"]) (by kernel_rfl) rfl (by kernel_rfl) (bd1 λ _=>rfl) (by decide) rfl h
theorem zec {x0 x1:V}{Q:V->Mem->Prop}(h:∀ R L,XB X l R (callEnv zbN L zay) [("self",x0),("c",x1)] μ zdW (Post Q)):Cs X (l+1) (.ref zay) [x0,x1] μ Q :=
 bE (ps:=["self","c"]) (by kernel_rfl) rfl (by kernel_rfl) (bd2 λ _ _=>rfl) (by decide) rfl h
theorem zdG {x0 x1:V}{Q:V->Mem->Prop}(h:∀ R L,XB X l R (cellEnv zbI L zaK) [("self",x0),("c",x1)] μ zdI (Post Q)):Cs X (l+1) (.ref zaK) [x0,x1] μ Q :=
 dk (ps:=["self","c"]) (by kernel_rfl) rfl (by kernel_rfl) (bd2 λ _ _=>rfl) (by decide) rfl h
theorem zc4 {x0:V}{Q:V->Mem->Prop}(h:∀ R L,XB X l R (cellEnv zbj L zau) [("self",x0)] μ zc6 (Post Q)):Cs X (l+1) (.ref zau) [x0] μ Q :=
 dk (ps:=["self"]) (by kernel_rfl) rfl (by kernel_rfl) (bd1 λ _=>rfl) (by decide) rfl h
theorem zgc {x0 x1 x2:V}{Q:V->Mem->Prop}(h:∀ R L,XB X l R (cellEnv zdm L zbC) [("self",x0),("op",x1),("classes",x2)] μ zgz (Post Q)):Cs X (l+1) (.ref zbC) [x0,x1,x2] μ Q :=
 dk (ps:=["self","op","classes"]) (by kernel_rfl) rfl (by kernel_rfl) (bd3 λ _ _ _=>rfl) (by decide) rfl h
theorem zfr {x0 x1:V}{Q:V->Mem->Prop}(h:∀ R L,XB X l R (callEnv zcC L zbk) [("self",x0),("c",x1)] μ zfQ (Post Q)):Cs X (l+1) (.ref zbk) [x0,x1] μ Q :=
 bE (ps:=["self","c"]) (by kernel_rfl) rfl (by kernel_rfl) (bd2 λ _ _=>rfl) (by decide) rfl h
theorem zd4 {x0:V}{Q:V->Mem->Prop}(h:∀ R L,XB X l R (callEnv zbU L zax) [("self",x0)] μ zd6 (Post Q)):Cs X (l+1) (.ref zax) [x0] μ Q :=
 bE (ps:=["self"]) (by kernel_rfl) rfl (by kernel_rfl) (bd1 λ _=>rfl) (by decide) rfl h
theorem zeK {x0:V}{Q:V->Mem->Prop}(h:∀ R L,XB X l R (callEnv zb5 L zbe) [("self",x0)] μ zeE (Post Q)):Cs X (l+1) (.ref zbe) [x0] μ Q :=
 bE (ps:=["self"]) (by kernel_rfl) rfl (by kernel_rfl) (bd1 λ _=>rfl) (by decide) rfl h
theorem zfs {x0:V}{Q:V->Mem->Prop}(h:∀ R L,XB X l R (callEnv zcq L za1) [("self",x0)] μ zfH (Post Q)):Cs X (l+1) (.ref za1) [x0] μ Q :=
 bE (ps:=["self"]) (by kernel_rfl) rfl (by kernel_rfl) (bd1 λ _=>rfl) (by decide) rfl h
theorem zdN {x0 x1:V}{Q:V->Mem->Prop}(h:∀ R L,XB X l R (callEnv zbJ L zaI) [("self",x0),("change",x1)] μ zdO (Post Q)):Cs X (l+1) (.ref zaI) [x0,x1] μ Q :=
 bE (ps:=["self","change"]) (by kernel_rfl) rfl (by kernel_rfl) (bd2 λ _ _=>rfl) (by decide) rfl h
theorem zft {x0 x1:V}{Q:V->Mem->Prop}(h:∀ R L,XB X l R (callEnv zct L zbZ) [("self",x0),("heap",x1)] μ zfT (Post Q)):Cs X (l+1) (.ref zbZ) [x0,x1] μ Q :=
 bE (ps:=["self","heap"]) (by kernel_rfl) rfl (by kernel_rfl) (bd2 λ _ _=>rfl) (by decide) rfl h
theorem zeV {x0 x1:V}{Q:V->Mem->Prop}(h:∀ R L,XB X l R (callEnv zaW L zan) [("self",x0),("pairs",x1)] μ zbv (Post Q)):Cs X (l+1) (.ref zan) [x0,x1] μ Q :=
 bE (ps:=["self","pairs"]) (by kernel_rfl) rfl (by kernel_rfl) (bd2 λ _ _=>rfl) (by decide) rfl h
theorem zfj {x0 x1 x2 x3:V}{Q:V->Mem->Prop}(h:∀ R L,XB X l R (callEnv zcb L zaL) [("self",x0),("pairs",x1),("a",x2),("b",x3)] μ zfd (Post Q)):Cs X (l+1) (.ref zaL) [x0,x1,x2,x3] μ Q :=
 bE (ps:=["self","pairs","a","b"]) (by kernel_rfl) rfl (by kernel_rfl) (bd4 λ _ _ _ _=>rfl) (by decide) rfl h
theorem zc7 {x0 x1:V}{Q:V->Mem->Prop}(h:∀ R L,XB X l R (callEnv zbh L zat) [("self",x0),("pairs",x1)] μ zcW (Post Q)):Cs X (l+1) (.ref zat) [x0,x1] μ Q :=
 bE (ps:=["self","pairs"]) (by kernel_rfl) rfl (by kernel_rfl) (bd2 λ _ _=>rfl) (by decide) rfl h
theorem zgn {x0 x1:V}{Q:V->Mem->Prop}(h:∀ R L,XB X l R (callEnv zdo L zbx) [("feed",x0),("wide",x1)] μ zgb (Post Q)):Cs X (l+1) (.ref zbx) [x0,x1] μ Q :=
 bE (ps:=["feed","wide"]) (by kernel_rfl) rfl (by kernel_rfl) (bd2 λ _ _=>rfl) (by decide) rfl h
theorem zfR {x0:V}{Q:V->Mem->Prop}(h:∀ R L,XB X l R (callEnv zcR L zbl) [("feed",x0)] μ zf3 (Post Q)):Cs X (l+1) (.ref zbl) [x0] μ Q :=
 bE (ps:=["feed"]) (by kernel_rfl) rfl (by kernel_rfl) (bd1 λ _=>rfl) (by decide) rfl h
theorem zfv {x0 x1 x2:V}{Q:V->Mem->Prop}(h:∀ R L,XB X l R (callEnv zcm L zar) [("feed",x0),("heap",x1),("many",x2)] μ zfI (Post Q)):Cs X (l+1) (.ref zar) [x0,x1,x2] μ Q :=
 bE (ps:=["feed","heap","many"]) (by kernel_rfl) rfl (by kernel_rfl) (bd3 λ _ _ _=>rfl) (by decide) rfl h
theorem zfK {x0 x1:V}{Q:V->Mem->Prop}(h:∀ R L,XB X l R (cellEnv zcw L zaF) [("heap",x0),("pairs",x1)] μ zfp (Post Q)):Cs X (l+1) (.ref zaF) [x0,x1] μ Q :=
 dk (ps:=["heap","pairs"]) (by kernel_rfl) rfl (by kernel_rfl) (bd2 λ _ _=>rfl) (by decide) rfl h
theorem zfO {x0:V}{Q:V->Mem->Prop}(h:∀ R L,XB X l R (cellEnv zcQ L za0) [("heap",x0)] μ zf0 (Post Q)):Cs X (l+1) (.ref za0) [x0] μ Q :=
 dk (ps:=["heap"]) (by kernel_rfl) rfl (by kernel_rfl) (bd1 λ _=>rfl) (by decide) rfl h
theorem zcK {x0 x1 x2 x3:V}{Q:V->Mem->Prop}(h:∀ R L,XB X l R (cellEnv zaB L zah) [("feed",x0),("heap",x1),("trial",x2),("told",x3)] μ zcM (Post Q)):Cs X (l+1) (.ref zah) [x0,x1,x2,x3] μ Q :=
 dk (ps:=["feed","heap","trial","told"]) (by kernel_rfl) rfl (by kernel_rfl) (bd4 λ _ _ _ _=>rfl) (by decide) rfl h
end
noncomputable def runT (stp:SharedT->Thread->Option (SharedT × Thread))(ok:Thread->Bool)(thr:Thread->Bool):Nat->SharedT->Thread->Option SharedT
 | 0,_,_=>none
 | n+1,s,t=>match thr t with
  | true=>some s
  | false=>match ok t with
   | false=>none
   | true=>match stp s t with
    | some (s',t')=>runT stp ok thr n s' t'
    | none=>none
theorem zeo {tb:String->Option Builtin}{p:Program}{w:World}{eL:Nat}{ann:Option Value}:∀ (N:Nat) (s s':SharedT) (t:Thread),runT (stepT (denote tb) p w) (stepOk eL ann) through N s t=some s'->topRun tb p w eL ann N s.abs t=some s'.abs
 | 0,_,_,_,h=>by cases h
 | n+1,s,s',t,h=>by
  unfold runT at h
  unfold topRun
  induction h1:through t with
  | true=>rw [h1]at h;cases h;rfl
  | false =>
   rw [h1]at h
   induction h2:stepOk eL ann t with
   | false=>rw [h2]at h;cases h
   | true =>
    rw [h2]at h
    induction h3:stepT (denote tb) p w s t with
    | none=>rw [h3]at h;cases h
    | some r =>
     obtain⟨s1,t1⟩:=r
     rw [h3]at h
     have h4:=stepT_spec h3
     show (match step (denote tb) p w s.abs t with | .go s' t'=>topRun tb p w eL ann n s' t' | .halt _ _=>none)=_
     rw [h4]
     exact zeo n s1 s' t1 h
noncomputable def treeOf (l:List Obj):BT:=(l.foldl (λ (x:BT × Nat) o=>(x.1.ins x.2 o,x.2+1)) (.nil,0)).1
noncomputable def S0 (w:World)(os:OsState):SharedT:=⟨treeOf (boot_heap w.params).objs.toList,11,{},#[],boot_drawn,boot_toks,os⟩
theorem zki:∀ w:World,(λ os=>(S0 w os).abs)=λ os=>⟨boot_heap w.params,#[],boot_drawn,boot_toks,os⟩:=by
 intro w;kernel_rfl
theorem open01:∀ w:World,(fencedOpening treeTable pw w 7400).map (λ s=>(s.heap,s.gens,s.drawn,s.toks))=some (boot_heap w.params,Array.mk [],boot_drawn,boot_toks) :=
 boot_open rfl (by decide) λ s=>rfl
theorem size01:∀ w:World,((boot_heap w.params).isNs mainGlobals && (#[]:Array GenState).size == 0,(boot_heap w.params).objs.size,(boot_heap w.params).nsMap mainGlobals "__annotations__")=(true,11,some (.ref 6)):=by
 intro w;kernel_rfl
noncomputable def q1:Program:={ pw with main:={ pw.main with body:=pw.main.body.drop 22 } }
noncomputable def looseL:List Str:=[Str.ofString "_wall",Str.ofString "__name__",Str.ofString "HeapError",Str.ofString "TermFault",Str.ofString "is_op",Str.ofString "parts",Str.ofString "Bank",Str.ofString "Unions",Str.ofString "Heap",Str.ofString "Levels",Str.ofString "Trial",Str.ofString "_law_draw",Str.ofString "_law_begun",Str.ofString "_law_pairs",Str.ofString "_law_homes",Str.ofString "_law_photo",Str.ofString "_law_tried_right"]
noncomputable def keysK:List Nat:=[1,2,3,37,36,25,47,46,60,59,67,66,86,85,93,92,98,97,105,104,131,130,138,137,174,173,192,191,199,198,206,205,213,212,220,219,227,226,232,231,246,245,253,252,256,255,274,273,281,280,286,285,291,290,296,295,303,302,310,309,317,316,324,323,331,330,338,337,345,344,352,351,359,358,364,363,369,368,374,373,381,380,384,383,404,403,392,411,410,418,417,425,424,433,432,441,440,453,452,456,455,472,471,477,476,484,483,489,488,513,512,524,523,531,530,538,537,543,542,548,547,553,552,558,557]
noncomputable def hookF (s:Shared):List (Option Obj):=keysK.map λ a=>s.heap.get? a
noncomputable def hookV (w:World):List (Option Obj):=(Kp w.params).map λ e=>some e.2
theorem run01:∀ w:World,(λ os=>(runT (Fast.tw10156331382660048174 (Fast.tw11892475500146522536 Fast.tw14364793385576792824) pw w) (Fast.tw6613529449190102663 11 (some (.ref 6))) through 7300 (S0 w os) (topStub pw)).map λ s =>
  (((staticsOk (Fast.tw5923862056798008813 pw.main.body) (boot_heap w.params) s.abs.heap && namesBound pw s.abs.heap && gensDone s.abs && laidKept (boot_heap w.params) s.abs.heap),Fast.tw4187177175401517315 q1 looseL (Fast.tw5923862056798008813 pw.main.body) (λ Y=>true) true s.abs,hookF s.abs):Bool × _ × List (Option Obj)))=λ os=>some (true,openGood q1 looseL,hookV w):=by
 intro w;kernel_rfl
theorem zjO {p q:Program}{lo:List Str}{bh:World->Heap}{bd:Drawn}{bt eL N:Nat}{ann:Option Value}{S:World->OsState->SharedT}{hF:Shared->List (Option Obj)}{hV:World->List (Option Obj)}
  (ho:∀ w:World,(fencedOpening treeTable p w (N+100)).map (λ s=>(s.heap,s.gens,s.drawn,s.toks))=some (bh w,Array.mk [],bd,bt))
  (hS:∀ w:World,(λ os=>(S w os).abs)=λ os=>⟨bh w,#[],bd,bt,os⟩)
  (hz:∀ w:World,((bh w).isNs mainGlobals && (#[]:Array GenState).size == 0,(bh w).objs.size,(bh w).nsMap mainGlobals "__annotations__")=(true,eL,ann))
  (hr:∀ w:World,(λ os=>(runT (Fast.tw10156331382660048174 (Fast.tw11892475500146522536 Fast.tw14364793385576792824) p w) (Fast.tw6613529449190102663 eL ann) through N (S w os) (topStub p)).map λ s =>
   (((staticsOk (Fast.tw5923862056798008813 p.main.body) (bh w) s.abs.heap && namesBound p s.abs.heap && gensDone s.abs && laidKept (bh w) s.abs.heap),Fast.tw4187177175401517315 q lo (Fast.tw5923862056798008813 p.main.body) (λ _=>true) true s.abs,hF s.abs):Bool × _ × List (Option Obj)))=λ os=>some (true,openGood q lo,hV w)) :
  LeftO p q lo (λ _=>true) hF hV (N+100):=λ w=>by
 obtain⟨⟨h,gs,d,k,os⟩,e,e'⟩:=Option.map_eq_some_iff.mp (ho w)
 have e2:h=bh w/\gs = #[]/\d=bd/\k=bt:=by simpa using e'
 obtain⟨rfl,rfl,rfl,rfl⟩:=e2
 have r:=congrFun (hr w) os
 obtain⟨sT,r1,r2⟩:=Option.map_eq_some_iff.mp r
 rw [<- Fast.te10156331382660048174,<- Fast.te11892475500146522536,<- Fast.te14364793385576792824,<- Fast.te6613529449190102663]at r1
 rw [<- Fast.te5923862056798008813,<- Fast.te4187177175401517315]at r2
 have r3:=zeo _ _ _ _ r1
 have a0:(S w os).abs=⟨bh w,#[],d,k,os⟩:=congrFun (hS w) os
 rw [a0]at r3
 have r4:=topRun_mono 100 _ _ _ _ r3
 have z:=hz w
 rw [Prod.mk.injEq,Prod.mk.injEq]at z
 obtain⟨z1,z2,z3⟩:=z
 rw [Prod.mk.injEq,Prod.mk.injEq]at r2
 obtain⟨l1,l2,l3⟩:=r2
 have t:topFrom treeTable p w (N+100) ⟨bh w,#[],d,k,os⟩=some sT.abs:=by
  unfold topFrom
  dsimp only
  rw [z1,z2,z3,r4]
  show (match staticsOk (importedModules p.main.body) (bh w) sT.abs.heap && namesBound p sT.abs.heap && gensDone sT.abs && laidKept (bh w) sT.abs.heap with | true=>_ | false=>_)=_
  rw [l1]
 unfold openEnds
 rw [e]
 show (topFrom treeTable p w (N+100) _).map _=_
 rw [t]
 exact cw some (Prod.ext l2 l3)
theorem left01:LeftO pw q1 looseL (λ _=>true) hookF hookV 7400:=zjO (N:=7300) open01 zki size01 run01
theorem zjH (P:Params):keysK=(Kp P).map (·.1):=by rfl
theorem zg5 {P:Params}{h:Heap}{g:Gh}:∀ {ns:List Int} {vs:List Value},WellAll P h vs (ofPys (ns.map PyData.int))->VRs g (ns.map .int) vs
 | [],_,w=>by cases w;exact .nil
 | n :: ns,_,w=>by
  cases w with
  | cons a w =>
   cases a with
   | int i t=>exact .cons ⟨t,rfl⟩ (zg5 w)
set_option tactic.hygienic true in
theorem zhF {P:Params}{h:Heap}{ns:List Int}{a:Addr}(w:Well P h (.ref a) (ofPy (PyData.list (ns.map .int)))):∃ vs:List Value,h.PlainList a vs.toArray/\∀ g:Gh,VRs g (ns.map .int) vs:=by
 generalize hd:ofPy (PyData.list (ns.map .int))=d at w
 cases w with
 | list ho ha =>
  rename_i vs xs
  have e:xs=ofPys (ns.map PyData.int):=by
   have:WData.list (ofPys (ns.map PyData.int))=WData.list xs:=hd
   cases this;rfl
  rw [e]at ha
  exact⟨vs,⟨_,ho⟩,λ g=>zg5 ha⟩
 | _=>cases hd
noncomputable def LawOk (l:Nat):Prop:=∀ (X:Ctx),∀ ns:List Int,ns.length<=63->∀ R L,X.lvl=l->X.frs=[cellEnv zbp L zcH]->XB X l R (cellEnv zbp L zcH) [("script",.lst (ns.map .int))] (λ _=>none) zd3 (Post λ x _=>x = .bool true)
set_option tactic.hygienic true in
theorem holds01 (law_ok:LawOk 40):PySem.Challenge.rw_pq0081_01.Holds:=by
 w_on
 refine holds_law (by kernel_rfl) λ said=>?_
 refine holds_open (q:=q1) (loose:=looseL) (Xt:=λ _=>true) (XP:=λ _ _=>True) (Yf:=hookF) (Ya:=hookV) (YP:=λ w h=>(Kp w.params).In h) (N:=7400) left01 (λ w s e=>Frag.in_of (zjH _) e) (λ w h h' y k=>y.keeps k) (λ _ _=>trivial) (λ _ _ _ _ _=>trivial) (by rfl) (by rfl) (by rfl) (λ s _=>recFacts_of (s:=s) rfl) (by rfl) (by first | assumption | decide +kernel) (by decide +kernel) ⟨rfl,rfl,rfl,rfl,rfl,by decide +kernel⟩ ?hw ?hc
 case hw=>w_witness2
 intro w s₀ dr mg mb G Y fa o pm cd doc dV kV ho hd hcd hD hmg hg args vals as hpre hlay hrd hwl hlo
 wrow_args hpre hlay hrd hwl hlo
 rename_i ns _ _ _ _ _ _ _ a vs0 _ _ _ w1 _ _ _ hz _
 refine enter_call (codeAny_mono ?_ λ _ _ g=>GoodW.toG g)
 have hz:ns.length<=63:=by lia
 obtain⟨vs,hpl,hvs⟩:=zhF w1
 have efa:fa=zcH:=by
  have h1:=mg_of Y G.T.g (n:="law") (show nsIn (Kp w.params) mainGlobals "law" = some (some (.ref zcH))by kernel_rfl)
  have h2:mg "law" = some (.ref fa):=hmg
  rw [h1]at h2
  cases h2;rfl
 subst efa
 let X:Ctx:={ w:=w,q:=q1,loose:=looseW q1 looseL,mg:=mg,mb:=mb,base:=dr.heap,os:=dr.os,drawn:=dr.drawn,kin0:=Y,mean:=ExcName.means s₀.heap,topF:=G.T,sys:=⟨_,Y _ _ rfl⟩,lvl:=40,frs:=[cellEnv zbp dr.heap.objs.size zcH] }
 let g:Gh:={ im:=λ b=>if b=a then some (.lst (ns.map .int))else none,mu:=λ _=>none }
 have e:=zgi (X:=X) (s:=dr) (A:=callerA) (l:=40) (g:=g) (args:=[.lst (ns.map .int)]) (vs:=[.ref a]) (ps:=["script"]) (Q:=λ x _=>x = .bool true) rfl rfl rfl hg (λ _=>rfl) (λ b v h=>by
  by_cases e:b=a
  ·subst e
   have h':(if b=b then some (V.lst (ns.map .int))else none)=some v:=h
   rw [aB rfl]at h';cases h'
   exact⟨_,hpl,hvs g⟩
  ·have h':(if b=a then some (V.lst (ns.map .int))else none)=some v:=h
   rw [aw e]at h';cases h') (by decide +kernel) ⟨rfl,by show callerA.depth+1+4 * 40 < recursionLimit;decide +kernel,by show callerA.units+3+16 * 40 < cLine;decide +kernel,an _,λ _=>rfl,⟨_,rfl⟩⟩ (.cons ⟨a,rfl,aB rfl⟩ .nil) (fd:=zbp) (body:=zd3) (f:=zcH) (by unfold Ctx.K;rfl) rfl (by unfold Ctx.K;kernel_rfl) (bd1 λ _=>rfl) (by decide) rfl (λ R=>law_ok X ns hz R _ rfl rfl)
 have e2:=e;unfold Ctx.prog at e2
 refine codeAny_mono e2 λ r s' h=>?_
 unfold Ended at h
 split at h
 ·obtain⟨h1,h2,h3,g',x,dl,vr,rfl⟩:=h
  have vr':=vr
  cases vr'
  refine⟨.inl ⟨_,.bool true,[],rfl,λ _=>by rfl,?_,?_,λ _=>⟨by simp,by simp⟩⟩,h1,h2,h3⟩
  ·exact .bool true
  ·with_unfolding_all rfl
 ·exact h.elim
noncomputable def root (ab:List Nat)(a:Nat):Nat:=if h:ab.getD a a < a then root ab (ab.getD a a)else a
termination_by a
theorem zbg {ab:List Nat}{a:Nat}(h:ab.getD a a < a):root ab a=root ab (ab.getD a a):=by rw [root];rw [dif_pos h]
theorem zak {ab:List Nat}{a:Nat}(h:¬ ab.getD a a < a):root ab a=a:=by rw [root];rw [dif_neg h]
noncomputable def LE (ab:List Nat):Prop:=∀ (i v:Nat),ab[i]? = some v->v<=i
structure UH (μ:Mem)(ab:List Nat)(lots:List (List Nat))(mg:List (Nat × Nat)):Prop where
 hu:μ (.h 2)=some (.inst zgY [("above",.ref (.h 7)),("lots",.ref (.h 8)),("merged",.ref (.h 9))])
 hab:μ (.h 7)=some (.list (ab.map VN))
 hlots:μ (.h 8)=some (.list ((List.range lots.length).map λ i=>.ref (.lot i)))
 hlot:∀ (i:Nat) (x:List Nat),lots[i]? = some x->μ (.lot i)=some (.list (x.map VN))
 hmg:μ (.h 9)=some (.list (mg.map λ p=>.tup [VN p.1,VN p.2]))
inductive IvT2n1 (μ:Mem)(a:Nat)(ab:List Nat)(n:Nat)(dm:Loc)(dl:Mem):Prop
 | mk (b:_) (h1:b=n) (h2:dm=[(("self":Str),V.ref (.h 2)),(("a":Str),VN b)]) (h3:dl=μ) (h4:b < ab.length) (h5:root ab b=root ab a):IvT2n1 μ a ab n dm dl
section
variable {X:Ctx}{l:Nat}{μ:Mem}
theorem zcJ {ab:List Nat}{lots:List (List Nat)}{mg:List (Nat × Nat)}{a:Nat}{Q:V->Mem->Prop}(U:UH μ ab lots mg)(hl:LE ab)(ha:a < ab.length)(hz:ab.length<=100)(q:Q (VN (root ab a)) μ) :
  Cs X (l+1) (.ref zao) [.ref (.h 2),VN a] μ Q:=by
 refine zeO λ R L=>?_
 refine bJ (XS.while_ (IvT2n1 μ a ab) ?_ a ⟨a,rfl,rfl,rfl,ha,rfl⟩)
 rintro n dm dl ⟨b,rfl,rfl,rfl,hb,hr⟩
 have hget:ab[b]? = some ab[b]:=al hb
 have hle:=hl _ _ hget
 have hD:ab.getD b b=ab[b]:=by simp [List.getD,hget]
 refine cr (cC (W.attr (ak .here (GA.field U.hu .here (by kernel_rfl) trivial ?_))))
 refine ak (.there .here) (bX (z:=VN ab[b]) (.ref U.hab) (by exact nT (az ‹_›) (nT ‹_› (by decide))) (by simp [hb]) ?_)
 refine ak (.there .here) (P2.neN (bz ⟨λ hc=>?_,λ hc=>?_⟩))
 ·have hne:ab[b]≠b:=by simpa using hc
  have hlt:ab[b] < b:=by exact aX ‹_› ‹_›
  refine db (.inl rfl) (cC (W.attr (ak .here (GA.field U.hu .here (by kernel_rfl) trivial ?_))))
  refine ak (.there .here) (bX (z:=VN ab[b]) (.ref U.hab) (by exact nT (az ‹_›) (nT ‹_› (by decide))) (by simp [hb]) ?_)
  refine⟨_,.there (by decide) .here,cg ⟨λ Y=>⟨ab[b],hlt,ab[b],rfl,rfl,rfl,by exact aM (by assumption) (by assumption),?_⟩,λ x e=>dead e⟩⟩
  rw [<- hr,zbg (a:=b) (by rw [hD];exact hlt),hD]
 ·have heq:ab[b]=b:=by simpa using hc
  refine⟨rfl,bZ (ak (.there .here) ?_)⟩
  have:root ab b=b:=zak (by rw [hD];exact cH (aG (bo ‹_›)))
  rw [<- hr,this]at q
  exact q
end
theorem sorted2 {x y:Nat}{ns:List Int}(p:ns.Perm [(x:Int),(y:Int)])(s:ns.Pairwise (· <= ·)):ns=[((min x y:Nat):Int),((max x y:Nat):Int)]:=by
 have hl:=p.length_eq
 cases ns with
 | nil=>cases hl
 | cons u r=>cases r with
  | nil=>cases hl
  | cons v r=>cases r with
   | cons _ _=>cases hl
   | nil =>
    have huv:u<=v:=by simpa using s
    have hu:u=x∨u=y:=by have:=p.mem_iff (a:=u);simp at this;exact this
    rcases hu with rfl | rfl
    ·have hv:v=y:=by
      have:=List.perm_singleton.mp (List.Perm.cons_inv p)
      simpa using this
     subst hv
     have h1:min x y=x:=by simp_all
     have h2:max x y=y:=by simp_all
     rw [h1,h2]
    ·have hv:v=x:=by
      have:=List.perm_singleton.mp (List.Perm.cons_inv (p.trans (List.Perm.swap _ _ _)))
      simpa using this
     subst hv
     have h1:min x y=y:=by simp_all
     have h2:max x y=x:=by simp_all
     rw [h1,h2]
section
variable {X:Ctx}{l:Nat}{μ:Mem}
end
end Internal
set_option linter.unusedSimpArgs false
namespace Internal
theorem sz {n:Nat}(h:n<=16000000):n<=sizeLine:=by unfold sizeLine;exact nT (by assumption) (nB rfl)
theorem szr {n:Nat}(h:Nat.ble n 16000000=true):n<=sizeLine:=sz (nB h)
theorem sz' {n:Nat}(h:n<=16000000):n < sizeLine:=by unfold sizeLine;exact aM (by assumption) (nB rfl)
theorem W.fld {X:Ctx}{l:Nat}{R:Nat->Option Obj}{env:Env}{ρ:Loc}{μ:Mem}{k:Id}{C:Nat}{fs:List (Str × V)}{x name:Str}{v:V}{p1 p2:Pos}{Q:V->Mem->Prop}(hs:Lk ρ x (.ref k))(hk:μ k=some (.inst C fs))(hx:Lk fs name v)(hf:fieldOk X.K C name=true)(hh:Handed v)(q:Q v μ)
  (hd:(x == ("__debug__":Str))=false:=by decide) (hc:(x == ("__classdict__":Str))=false:=by decide)
  (he:∀ env,eval (.Attribute (.Name x p1) name p2) env=(do let o <- eval (.Name x p1) env;standAt p2.atName;let r <- PySem.holding [o] (getAttr o name true);letTemporaryGo (.Name x p1) o r;pure r):=by intro _;rfl) :
  W X l R env ρ μ (.Attribute (.Name x p1) name p2) Q:=W.attr (ak hs (GA.field hk hx hf hh q) hd hc) he
section
variable {X:Ctx}{l:Nat}{μ:Mem}
theorem uA {R:Nat->Option Obj}{env:Env}{ρ:Loc}{ab:List Nat}{lots:List (List Nat)}{mg:List (Nat × Nat)}{p1 p2:Pos}{Q:V->Mem->Prop}(U:UH μ ab lots mg)(hs:Lk ρ "self" (.ref (.h 2)))(q:Q (.ref (.h 7)) μ):W X l R env ρ μ (.Attribute (.Name "self" p1) "above" p2) Q :=
 W.fld hs U.hu .here (by kernel_rfl) trivial q
theorem uL {R:Nat->Option Obj}{env:Env}{ρ:Loc}{ab:List Nat}{lots:List (List Nat)}{mg:List (Nat × Nat)}{p1 p2:Pos}{Q:V->Mem->Prop}(U:UH μ ab lots mg)(hs:Lk ρ "self" (.ref (.h 2)))(q:Q (.ref (.h 8)) μ):W X l R env ρ μ (.Attribute (.Name "self" p1) "lots" p2) Q :=
 W.fld hs U.hu (.there .here) (by kernel_rfl) trivial q
theorem uM {R:Nat->Option Obj}{env:Env}{ρ:Loc}{ab:List Nat}{lots:List (List Nat)}{mg:List (Nat × Nat)}{p1 p2:Pos}{Q:V->Mem->Prop}(U:UH μ ab lots mg)(hs:Lk ρ "self" (.ref (.h 2)))(q:Q (.ref (.h 9)) μ):W X l R env ρ μ (.Attribute (.Name "self" p1) "merged" p2) Q :=
 W.fld hs U.hu (.there (.there .here)) (by kernel_rfl) trivial q
theorem UH.setM {ab:List Nat}{lots:List (List Nat)}{mg mg':List (Nat × Nat)}(U:UH μ ab lots mg):UH (μ.set (.h 9) (.list (mg'.map λ p=>.tup [VN p.1,VN p.2]))) ab lots mg' :=
 ⟨(av (by decide)).trans U.hu,(av (by decide)).trans U.hab,(av (by decide)).trans U.hlots,λ i x h=>(av (by first | exact aI rfl | simp)).trans (U.hlot i x h),aN⟩
theorem UH.setA {ab ab':List Nat}{lots:List (List Nat)}{mg:List (Nat × Nat)}(U:UH μ ab lots mg){l:List V}(e:l=ab'.map VN):UH (μ.set (.h 7) (.list l)) ab' lots mg :=
 ⟨(av (by decide)).trans U.hu,by rw [e];exact aN,(av (by decide)).trans U.hlots,λ i x h=>(av (by first | exact aI rfl | simp)).trans (U.hlot i x h),(av (by decide)).trans U.hmg⟩
theorem UH.setL {ab:List Nat}{lots:List (List Nat)}{mg:List (Nat × Nat)}(U:UH μ ab lots mg){k:Nat}{x:List Nat}{l:List V}(e:l=x.map VN):UH (μ.set (.lot k) (.list l)) ab (lots.set k x) mg :=
 ⟨(av (by first | exact aI rfl | simp)).trans U.hu,(av (by first | exact aI rfl | simp)).trans U.hab,by rw [List.length_set];exact(av (by first | exact aI rfl | simp)).trans U.hlots,λ i y h=>by
  by_cases ei:i=k
  ·subst ei
   rw [List.getElem?_set]at h
   rw [aB rfl]at h
   split at h
   ·cases h;rw [e];exact aN
   ·cases h
  ·rw [ch (cp ei)]at h
   exact(av (by simpa using ei)).trans (U.hlot i y h),(av (by first | exact aI rfl | simp)).trans U.hmg⟩
theorem zhX {ab:List Nat}{lots:List (List Nat)}{mg:List (Nat × Nat)}{a b:Nat}{Q:V->Mem->Prop}(U:UH μ ab lots mg)(hl:LE ab)(ha:a < ab.length)(hb:b < ab.length)(hz:ab.length<=100)
  (hr:∀ a,a < ab.length->root ab a < ab.length) (hlen:lots.length=ab.length) (hlz:∀ (i:Nat) (x:List Nat),lots[i]? = some x->x.length<=1000) (hmz:mg.length<=1000)
  (q0:root ab a=root ab b->Q .none μ)
  (q1:∀ k g,k=min (root ab a) (root ab b)->g=max (root ab a) (root ab b)->k < g->∀ dl,UH dl (ab.set g k) (lots.set k (lots.getD k [] ++ lots.getD g [])) (mg ++ [(k,g)])->(∀ id,id ≠ .h 7->id ≠ .h 9->id ≠ .lot k->dl id=μ id)->Q (.tup [VN k,VN g]) dl) :
  Cs X (l+2) (.ref zaU) [.ref (.h 2),VN a,VN b] μ Q:=by
 refine zd5 λ R L=>XB.loc3 λ ρ ns na nb=>?_
 refine bJ (cP (cB (.builtin "sorted") (aj (cV (aj (aW (ak ns (bc U.hu (f:=zao) (by kernel_rfl) (by decide) ⟨by kernel_rfl,aj (ak na (aq (aU (zcJ U hl ha hz ?_))))⟩))))))))
 refine aj (aW (ak ns (bc U.hu (f:=zao) (by kernel_rfl) (by decide) ⟨by kernel_rfl,aj (ak nb (aq (aU (zcJ U hl hb hz ?_))))⟩)))
 refine aq ⟨szr rfl,.inl (aq (CV.sortedL (ns:=[(root ab a:Int),(root ab b:Int)]) .lst (by first | exact aI rfl | simp) λ ns' hp hs=>.inl ?_))⟩
 refine bo (sorted2 hp hs) ▸ ?_
 clear hp hs ns' na nb
 have hkg:min (root ab a) (root ab b)=max (root ab a) (root ab b)↔root ab a=root ab b:=zcY
 have hgl:max (root ab a) (root ab b) < ab.length:=Nat.max_lt.mpr ⟨hr a ha,hr b hb⟩
 have Q1:=q1 _ _ rfl rfl
 generalize hk:min (root ab a) (root ab b)=k at hkg Q1 ⊢
 generalize hg:max (root ab a) (root ab b)=g at hkg hgl Q1 ⊢
 refine Up.e2 ρ "kept" (VN k) "gone" (VN g) λ dE u1 dH u2=>?_
 refine da (UN.list .lst rfl (bI (ba (.inl rfl) u1 (bI (ba (.inl rfl) u2 (cX ⟨rfl,?_⟩))))))
 have ns:=u2.lk' (u1.lk' ns (by decide)) (by decide)
 have nk:=u2.lk' u1.lk (by decide)
 have ng:=u2.lk
 clear u1 u2
 refine cZ (cr (ak nk (ak ng (P2.eqN (bz ⟨λ hc=>bZ (W.cnone ⟨λ e=>dead e,λ x e=>?_⟩),λ hc=>di ?_⟩)))))
 ·cases e
  exact q0 (hkg.mp (cv hc))
 have hlt:k < g:=mmlt hk hg (cj hc)
 have hgl':g < lots.length:=hlen.symm▸hgl
 have hkl':k < lots.length:=bU hlt hgl'
 have elk:lots[k]? = some (lots.getD k []):=by simp [hkl']
 have elg:lots[g]? = some (lots.getD g []):=by simp [hgl']
 have lk:=hlz _ _ elk
 have lg:=hlz _ _ elg
 have zk:k<=1000000:=nT (az (bU hlt hgl)) (nT hz (by decide))
 have zg:g<=1000000:=nT (az hgl) (nT hz (by decide))
 refine XB.setI (ak nk (uA U ns (ak ng (SI.list U.hab (by simpa using hgl) (sz (by rw [ah];exact nT hz (by decide))) ?_))))
 have U1:=U.setA (ab':=ab.set g k) (l:=(ab.map VN).set g (.int (k:Nat))) (by rw [List.map_set];rfl)
 refine cO (aW (cC (uL U1 ns (ak nk (bX (z:=.ref (.lot k)) (.ref U1.hlots) zk (by simp [hkl']) (cL zgW (.ref (U1.hlot _ _ elk)) ⟨rfl,aj (cC (uL U1 ns (ak ng (bX (z:=.ref (.lot g)) (.ref U1.hlots) zg (by simp [hgl']) (aq (CV.extend (U1.hlot _ _ elk) (.ref (U1.hlot _ _ elg)) (by rw [ah,ah];exact nT (bY lk lg) (by decide)) ?_))))))⟩))))))
 have U2:=U1.setL (k:=k) (x:=lots.getD k [] ++ lots.getD g []) (ax (f:=VN)).symm
 refine cO (aW (uM U2 ns (cL zaj (.ref U2.hmg) ⟨rfl,aj (cm (aj (ak nk (aj (ak ng (aq ⟨szr rfl,aq (cQ U2.hmg (sz (by rw [ah];exact nT hmz (by decide))) ?_)⟩))))))⟩)))
 refine bZ (cm (aj (ak nk (aj (ak ng (aq ⟨szr rfl,Q1 hlt _ ?_ λ id h7 h9 hL=>(av h9).trans ((av hL).trans (av h7))⟩))))))
 have U3:=U2.setM (mg':=mg ++ [(k,g)])
 rw [ax]at U3
 exact U3
inductive IvT4 (ab ab':List Nat)(lots lots':List (List Nat))(mg:List (Nat × Nat))(k:Nat)(μ:Mem)(n:Nat)(dm:Loc)(dl:Mem):Prop
 | mk (h1:Lk dm "self" (.ref (.h 2))) (h2:Lk dm "many" (VN mg.length)) (h:(n=1/\dl=μ)∨(UH dl ab' lots' mg/\(∀ id,id ≠ .h 7->id ≠ .h 9->id ≠ .lot k->dl id=μ id)))
theorem zif {ab:List Nat}{lots:List (List Nat)}{mg:List (Nat × Nat)}{k g:Nat}{Q:V->Mem->Prop}(U:UH μ ab lots (mg ++ [(k,g)]))(hk:k < lots.length)(hg:g < lots.length)(hga:g < ab.length)(hz:ab.length<=100)
  (hlen:lots.length=ab.length) (hle:(lots.getD g []).length<=(lots.getD k []).length) (hlz:∀ (i:Nat) (x:List Nat),lots[i]? = some x->x.length<=1000) (hmz:mg.length<=1000)
  (q:∀ dl,UH dl (ab.set g g) (lots.set k ((lots.getD k []).take ((lots.getD k []).length - (lots.getD g []).length))) mg->(∀ id,id ≠ .h 7->id ≠ .h 9->id ≠ .lot k->dl id=μ id)->Q .none dl) :
  Cs X (l+1) (.ref zbc) [.ref (.h 2),VN mg.length] μ Q:=by
 refine zeM λ R L=>XB.loc2 λ ρ ns nm=>?_
 refine bJ (XS.while_ (IvT4 ab (ab.set g g) lots (lots.set k ((lots.getD k []).take ((lots.getD k []).length - (lots.getD g []).length))) mg k μ) ?_ 1 ⟨ns,nm,.inl ⟨rfl,rfl⟩⟩)
 clear ns nm
 rintro n dm dl ⟨ns,nm,⟨rfl,rfl⟩ | ⟨U',fr⟩⟩
 ·refine cr (cB (.builtin "len") (aj (uM U ns (aq (CV.lenM (.ref U.hmg) (sz (by rw [aC];exact aM hmz (by decide))) ?_)))))
  refine ak nm (P2.gtN (bz ⟨λ Y=>?_,λ hc=>?_⟩))
  ·have elk:lots[k]? = some (lots.getD k []):=by simp [hk]
   have elg:lots[g]? = some (lots.getD g []):=by simp [hg]
   have zk:k<=1000000:=nT (az hk) (hlen▸nT hz (by decide))
   have zg:g<=1000000:=nT (az hg) (hlen▸nT hz (by decide))
   refine bJ (cP (aW (uM U ns (cL zhT (.ref U.hmg) ⟨rfl,aq (CV.pop (k:=.h 9) (xs:=mg.map λ p=>.tup [VN p.1,VN p.2]) (x:=.tup [VN k,VN g]) (by rw [U.hmg,ax];rfl) (sz' (by rw [ah];exact nT hmz (by decide))) ?_)⟩)) rfl))
   refine Up.e2 dm "kept" (VN k) "gone" (VN g) λ dE u1 dH u2=>?_
   refine da (dj rfl (bI (ba (.inl rfl) u1 (bI (ba (.inl rfl) u2 (cX ⟨rfl,?_⟩))))))
   have ns:=u2.lk' (u1.lk' ns (by decide)) (by decide)
   have nm:=u2.lk' (u1.lk' nm (by decide)) (by decide)
   have nk:=u2.lk' u1.lk (by decide)
   have ng:=u2.lk
   clear u1 u2
   have U1:=U.setM (mg':=mg)
   refine XB.setI (ak ng (uA U1 ns (ak ng (SI.list U1.hab (by simpa using hga) (sz (by rw [ah];exact nT hz (by decide))) ?_))))
   have U2:=U1.setA (ab':=ab.set g g) (l:=(ab.map VN).set g (.int (g:Nat))) (by rw [List.map_set];rfl)
   refine bJ (XS.delEnd (cC (uL U2 ns (ak nk (bX (z:=.ref (.lot k)) (.ref U2.hlots) zk (by simp [hk]) ?_)))))
   refine cF (cB (.builtin "len") (aj (cC (uL U2 ns (ak nk (bX (z:=.ref (.lot k)) (.ref U2.hlots) zk (by simp [hk]) (aq (CV.lenM (.ref (U2.hlot _ _ elk)) (sz (nT (hlz _ _ elk) (by decide))) ?_))))))))
   refine cB (.builtin "len") (aj (cC (uL U2 ns (ak ng (bX (z:=.ref (.lot g)) (.ref U2.hlots) zg (by simp [hg]) (aq (CV.lenM (.ref (U2.hlot _ _ elg)) (sz (nT (hlz _ _ elg) (by decide))) ?_)))))))
   refine P2.subN hle ⟨.lot k,_,(lots.getD k []).length - (lots.getD g []).length,rfl,rfl,U2.hlot _ _ elk,ah .. ▸ Nat.sub_le _ _,sz (by rw [ah];exact nT (hlz _ _ elk) (by decide)),rfl,cg ⟨λ Y=>⟨0,an _,ns,nm,.inr ⟨U2.setL (List.map_take ..).symm,λ id h7 h9 hL=>(av hL).trans ((av h7).trans (av h9))⟩⟩,λ x e=>dead e⟩⟩
  ·exact absurd hc (by simp)
 ·refine cr (cB (.builtin "len") (aj (uM U' ns (aq (CV.lenM (.ref U'.hmg) (sz (nT hmz (by decide))) ?_)))))
  exact ak nm (P2.gtN (bz ⟨λ hc=>absurd (cv hc) (bj _),λ hc=>⟨rfl,cg (q _ U' fr)⟩⟩))
end
abbrev dd:=@W.fld
/-! the heap with levels as it stands -/
noncomputable abbrev Nd:=Str × List Nat
noncomputable def ndV (n:Nd):V:=.tup (.str n.1 :: n.2.map VN)
noncomputable def ndK (n:Nd):List KA:=.s n.1 :: n.2.map λ k=>.i (k:Nat)
theorem zhL (n:Nd):kT.key (ndK n)=ndV n:=by
 show V.tup ((ndK n).map KA.toV)=ndV n
 unfold ndK ndV
 rw [aH,bv];rfl
theorem zeI {m n:Nd}(h:ndK m=ndK n):m=n:=by
 obtain⟨a,b⟩:=m
 obtain⟨c,d⟩:=n
 unfold ndK at h
 simp only [List.cons.injEq,KA.s.injEq]at h
 obtain⟨rfl,h⟩:=h
 have:b=d:=by
  refine List.map_inj_right (f:=λ k:Nat=>KA.i (k:Nat)) ?_ |>.mp h
  intro x y e
  have:(x:Int)=(y:Int):=by simpa using e
  exact Int.ofNat_inj.mp ‹_›
 rw [this]
set_option genInjectivity false in
inductive Ch where
 | made (n:Nat) | known (k:Nd) | edge (kept many gone:Nat) (us:List Nat)
noncomputable def rsV (r:List Str):V:=.tup (r.map .str)
noncomputable def edgeV (e:Nat × Nat × List Str):V:=.tup [VN e.1,VN e.2.1,rsV e.2.2]
set_option genInjectivity false in
inductive Mark where
 | no | on (m:Nat) | off
set_option genInjectivity false in
structure St where
 nodes:List Nd
 ab:List Nat
 lots:List (List Nat)
 mg:List (Nat × Nat)
 edges:List (Nat × Nat × List Str)
 forest:List Nat
 known:List (Nd × Nat)
 U:Nat->Option (List Nat)
 wait:List Nat
 changes:List Ch
 mark:Mark
 made:Nat
 ul:Nat
noncomputable def St.wE (S:St)(e:List (Nat × Nat × List Str)):St:={ S with edges:=e }
noncomputable def St.wF (S:St)(e:List Nat):St:={ S with forest:=e }
noncomputable def St.wK (S:St)(e:List (Nd × Nat)):St:={ S with known:=e }
noncomputable def St.wU (S:St)(U:Nat->Option (List Nat))(n:Nat):St:={ S with U:=U,ul:=n }
noncomputable def St.wW (S:St)(e:List Nat):St:={ S with wait:=e }
noncomputable def St.wC (S:St)(e:List Ch):St:={ S with changes:=e }
noncomputable def St.wA (S:St)(ab:List Nat)(lots:List (List Nat))(mg:List (Nat × Nat)):St:={ S with ab:=ab,lots:=lots,mg:=mg }
noncomputable def St.wM (S:St)(m:Nat):St:={ S with made:=m }
noncomputable def St.wMk (S:St)(m:Mark):St:={ S with mark:=m }
inductive UV (μ:Mem):V->List Nat->Prop
 | lst {l:List Nat}:UV μ (.lst (l.map VN)) l
 | ref {c:Nat} {l:List Nat}:μ (.usr c)=some (.list (l.map VN))->UV μ (.ref (.usr c)) l
theorem UV.rd {μ:Mem}{v:V}{l:List Nat}(h:UV μ v l):RdL μ v (l.map VN):=by
 induction h with
 | lst=>exact .lst
 | ref h=>exact .ref h
noncomputable def UsOk (μ:Mem)(es:List (Int × V))(U:Nat->Option (List Nat)):Prop:=(es.map (·.1)).Nodup/\∀ c:Nat,match U c with
 | none=>aget es (c:Int)=none
 | some l=>∃ v,aget es (c:Int)=some v/\UV μ v l
theorem UsOk.get {μ:Mem}{es:List (Int × V)}{U:Nat->Option (List Nat)}(h:UsOk μ es U){c:Nat}{l:List Nat}(e:U c=some l):∃ v,aget es (c:Int)=some v/\UV μ v l:=by have:=h.2 c;rw [e]at this;exact this
theorem UsOk.no {μ:Mem}{es:List (Int × V)}{U:Nat->Option (List Nat)}(h:UsOk μ es U){c:Nat}(e:U c=none):aget es (c:Int)=none:=by have:=h.2 c;rw [e]at this;exact this
noncomputable def upd (U:Nat->Option (List Nat))(c:Nat)(v:Option (List Nat)):Nat->Option (List Nat):=λ j=>if j=c then v else U j
theorem zhh {K:Type} [DecidableEq K] {k:K}:∀ {es:List (K × V)},aget es k=none->k∉es.map (·.1)
 | [],_=>by simp
 | (a,v) :: r,h=>by
  rw [zaq]at h
  by_cases e:a=k
  ·rw [aB e]at h;cases h
  ·rw [aw e]at h
   rw [aH,bD,not_or]
   exact⟨λ q=>e q.symm,zhh h⟩
theorem zfW {K:Type} [DecidableEq K] {k:K}:∀ {es:List (K × V)},k∉es.map (·.1)->aget es k=none
 | [],_=>rfl
 | (a,v) :: r,h=>by
  rw [aH,bD,not_or]at h
  rw [zaq]
  rw [aw λ q=>h.1 q.symm];exact zfW h.2
theorem zdU {K:Type} [DecidableEq K] {k j:K} {v:V}:∀ {es:List (K × V)},aget (aput es k v) j=if j=k then some v else aget es j
 | []=>by
  show aget [(k,v)] j=_
  rw [zaq]
  by_cases e:k=j
  ·rw [aB e,aB e.symm]
  ·rw [aw e,aw λ q=>e q.symm]
 | (a,u) :: r=>by
  rw [zdn]
  by_cases e:a=k
  ·rw [aB e]
   rw [zaq,zaq]
   by_cases e2:a=j
   ·rw [aB e2,aB (e2.symm.trans e)]
   ·rw [aw e2,aw (λ q=>e2 (e.trans q.symm)),aw e2]
  ·rw [aw e]
   rw [zaq,zaq]
   by_cases e2:a=j
   ·rw [aB e2,aB e2,aw λ q=>e (e2.trans q)]
   ·rw [aw e2,aw e2];exact zdU
theorem zfY {K:Type} [DecidableEq K] {k j:K}:∀ {es:List (K × V)},(es.map (·.1)).Nodup->aget (adel es k) j=if j=k then none else aget es j
 | [],_=>by show (none:Option V)=if j=k then none else none;rw [ite_self]
 | (a,u) :: r,nd=>by
  rw [aH,bL]at nd
  rw [zfC]
  by_cases e:a=k
  ·rw [aB e]
   by_cases e2:j=k
   ·rw [aB e2,e2,<- e];exact zfW nd.1
   ·rw [aw e2]
    conv=>rhs;rw [zaq]
    rw [aw λ q=>e2 (q.symm.trans e)]
  ·rw [aw e]
   rw [zaq,zaq]
   by_cases e2:a=j
   ·rw [aB e2,aB e2,aw λ q=>e (e2.trans q)]
   ·rw [aw e2,aw e2];exact zfY nd.2
theorem zg7 {K:Type} [DecidableEq K] {k:K} {v:V}:∀ {es:List (K × V)},(aput es k v).length=if aget es k=none then es.length+1 else es.length
 | []=>by simp [aput,aget]
 | (a,u) :: r=>by
  rw [zdn,zaq]
  by_cases e:a=k
  ·rw [aB e,aB e];simp
  ·rw [aw e,aw e,bx,zg7]
   split <;> simp
theorem zgO {K:Type} [DecidableEq K] {k:K} {v:V}:∀ {es:List (K × V)},aget es k=some v->(adel es k).length+1=es.length
 | [],h=>by cases h
 | (a,u) :: r,h=>by
  rw [zfC]
  rw [zaq]at h
  by_cases e:a=k
  ·rw [aB e];simp
  ·rw [aw e]at h ⊢
   rw [bx,bx,zgO h]
theorem UsOk.put {μ:Mem}{es:List (Int × V)}{U:Nat->Option (List Nat)}(h:UsOk μ es U){c:Nat}{v:V}{l:List Nat}(x:UV μ v l):UsOk μ (aput es (c:Int) v) (upd U c (some l)):=by
 refine⟨zb4 h.1,λ j=>?_⟩
 unfold upd
 rw [zdU]
 by_cases e:j=c
 ·rw [aB e,aB (by rw [e])];exact⟨v,rfl,x⟩
 ·rw [aw e,aw (by (intro e;cases e;contradiction))];exact h.2 j
theorem UsOk.del {μ:Mem}{es:List (Int × V)}{U:Nat->Option (List Nat)}(h:UsOk μ es U){c:Nat}:UsOk μ (adel es (c:Int)) (upd U c none):=by
 refine⟨zb3 h.1,λ j=>?_⟩
 unfold upd
 rw [zfY h.1]
 by_cases e:j=c
 ·rw [aB e,aB (by rw [e])]
 ·rw [aw e,aw (by (intro e;cases e;contradiction))];exact h.2 j
inductive ChV (μ:Mem):Ch->V->Prop
 | made {n:Nat}:ChV μ (.made n) (.tup [.str "made",VN n])
 | known {k:Nd}:ChV μ (.known k) (.tup [.str "known",ndV k])
 | edge {k m g:Nat} {us:List Nat} {u:V}:UV μ u us->ChV μ (.edge k m g us) (.tup [.str "edge",VN k,VN m,VN g,u])
inductive ChVs (μ:Mem):List Ch->List V->Prop
 | nil:ChVs μ [] []
 | cons {c:Ch} {v:V} {cs:List Ch} {vs:List V}:ChV μ c v->ChVs μ cs vs->ChVs μ (c :: cs) (v :: vs)
theorem ChVs.snoc {μ:Mem}{cs:List Ch}{vs:List V}(h:ChVs μ cs vs){c:Ch}{v:V}(x:ChV μ c v):ChVs μ (cs ++ [c]) (vs ++ [v]):=by
 induction h with
 | nil=>exact .cons x .nil
 | cons y _ ih=>exact .cons y ih
theorem ChVs.length {μ:Mem}{cs:List Ch}{vs:List V}(h:ChVs μ cs vs):vs.length=cs.length:=by
 induction h with
 | nil=>rfl
 | cons y _ ih=>simp [ih]
theorem ChVs.last {μ:Mem}{c:Ch}:∀ {cs:List Ch} {vs:List V},ChVs μ (cs ++ [c]) vs->∃ vs' v,vs=vs' ++ [v]/\ChVs μ cs vs'/\ChV μ c v:=by
 intro cs
 induction cs with
 | nil=>intro vs h;cases h with | cons y h=>cases h;exact⟨[],_,rfl,.nil,y⟩
 | cons d cs ih =>
  intro vs h
  cases h with
  | cons y h =>
   refine E23 (ih h) λ vs' v q9 h1 h2=>?_;subst q9
   exact⟨_ :: vs',v,rfl,.cons y h1,h2⟩
theorem UV.keep {μ dl:Mem}(k:∀ c,dl (.usr c)=μ (.usr c)){v:V}{l:List Nat}(h:UV μ v l):UV dl v l:=by
 induction h with
 | lst=>exact .lst
 | ref h=>exact .ref ((k _).trans h)
theorem ChVs.keep {μ dl:Mem}(k:∀ c,dl (.usr c)=μ (.usr c)){cs:List Ch}{vs:List V}(h:ChVs μ cs vs):ChVs dl cs vs:=by
 induction h with
 | nil=>exact .nil
 | cons y _ ih=>exact .cons (by induction y with
  | made=>exact .made
  | known=>exact .known
  | edge h=>exact .edge (h.keep k)) ih
theorem UsOk.keep {μ dl:Mem}(k:∀ c,dl (.usr c)=μ (.usr c)){es:List (Int × V)}{U:Nat->Option (List Nat)}(h:UsOk μ es U):UsOk dl es U:=by
 refine⟨h.1,λ c=>?_⟩
 have:=h.2 c
 induction e:U c with
 | none=>rw [e]at this;exact this
 | some l=>rw [e]at this;refine E12 (this) λ v h1 h2=>?_;exact⟨v,h1,h2.keep k⟩
structure BH (μ:Mem)(nodes:List Nd):Prop where
 obj:μ (.h 1)=some (.inst zgN [("nodes",.ref (.h 3)),("numbers",.ref (.h 4)),("weights",.ref (.h 5)),("depths",.ref (.h 6))])
 nds:μ (.h 3)=some (.list (nodes.map ndV))
 numbers:∃ es,μ (.h 4)=some (.dT es)/\es.length<=nodes.length/\∀ nd,aget es (ndK nd)=(nodes.idxOf? nd).map VN
 weights:∃ ws:List Int,μ (.h 5)=some (.list (ws.map .int))/\ws.length=nodes.length
 depths:∃ ds:List Int,μ (.h 6)=some (.list (ds.map .int))/\ds.length=nodes.length
noncomputable def knV (kn:List (Nd × Nat)):List (List KA × V):=kn.map λ p=>(ndK p.1,VN p.2)
noncomputable def heapF (w made:Nat):List (Str × V):=[("bank",.ref (.h 1)),("unions",.ref (.h 2)),("edges",.ref (.h 10)),("forest",.ref (.h 11)),("known",.ref (.h 12)),("above",.ref (.h 13)),("waiting",.ref (.w w)),("changes",.ref (.h 14)),("marks",.ref (.h 15)),("made",VN made)]
noncomputable def heapN:List Str:=["bank","unions","edges","forest","known","above","waiting","changes","marks","made"]
theorem zab {w made:Nat}{x:Str}(h:heapN.elem x=false):x∉(heapF w made).map (·.1):=λ hm=>by
 have h2:heapN.elem x=true:=List.elem_eq_true_of_mem hm
 rw [h]at h2;cases h2
theorem zcF {w n:Nat}:Lk (heapF w n) "bank" (.ref (.h 1)):=.here
theorem za9 {w n:Nat}:Lk (heapF w n) "unions" (.ref (.h 2)):=.there<|.here
theorem zfi {w n:Nat}:Lk (heapF w n) "edges" (.ref (.h 10)):=.there<|.there<|.here
theorem zff {w n:Nat}:Lk (heapF w n) "forest" (.ref (.h 11)):=.there<|.there<|.there<|.here
theorem ze4 {w n:Nat}:Lk (heapF w n) "known" (.ref (.h 12)):=.there<|.there<|.there<|.there<|.here
theorem za5 {w n:Nat}:Lk (heapF w n) "above" (.ref (.h 13)):=.there<|.there<|.there<|.there<|.there<|.here
theorem zbX {w n:Nat}:Lk (heapF w n) "waiting" (.ref (.w w)):=.there<|.there<|.there<|.there<|.there<|.there<|.here
theorem zbq {w n:Nat}:Lk (heapF w n) "changes" (.ref (.h 14)):=.there<|.there<|.there<|.there<|.there<|.there<|.there<|.here
theorem zfb {w n:Nat}:Lk (heapF w n) "marks" (.ref (.h 15)):=.there<|.there<|.there<|.there<|.there<|.there<|.there<|.there<|.here
theorem zkk {w n:Nat}:Lk (heapF w n) "made" (VN n):=.there<|.there<|.there<|.there<|.there<|.there<|.there<|.there<|.there<|.here
structure HB (μ:Mem)(w made:Nat)(nodes:List Nd)(ab:List Nat)(lots:List (List Nat))(mg:List (Nat × Nat)):Prop where
 obj:μ (.h 0)=some (.inst zaa (heapF w made))
 B:BH μ nodes
 U:UH μ ab lots mg
noncomputable def Mk (μ:Mem)(w:Nat):Mark->Prop
 | .no=>μ (.h 15)=some (.list [])/\μ (.w (w+1))=none
 | .on m=>μ (.h 15)=some (.list [.tup [VN m,.ref (.w (w+1))]])/\μ (.w (w+1))=some (.list [])
 | .off=>μ (.h 15)=some (.list [])/\μ (.w (w+1))=some (.list [])
structure HS (μ:Mem)(w:Nat)(S:St):Prop where
 hb:HB μ w S.made S.nodes S.ab S.lots S.mg
 edges:μ (.h 10)=some (.list (S.edges.map edgeV))
 forest:μ (.h 11)=some (.list (S.forest.map VN))
 known:μ (.h 12)=some (.dT (knV S.known))
 us:∃ es,μ (.h 13)=some (.dI es)/\UsOk μ es S.U/\es.length=S.ul
 wait:μ (.w w)=some (.list (S.wait.map VN))
 changes:∃ cs,μ (.h 14)=some (.list cs)/\ChVs μ S.changes cs
 marks:Mk μ w S.mark
 fresh:∀ j,w+1 < j->μ (.w j)=none
theorem HS.obj {μ:Mem}{w:Nat}{S:St}(H:HS μ w S):μ (.h 0)=some (.inst zaa (heapF w S.made)):=H.hb.obj
theorem HS.B {μ:Mem}{w:Nat}{S:St}(H:HS μ w S):BH μ S.nodes:=H.hb.B
theorem HS.U {μ:Mem}{w:Nat}{S:St}(H:HS μ w S):UH μ S.ab S.lots S.mg:=H.hb.U
structure Wf (S:St):Prop where
 n30:S.nodes.length<=30
 ab:S.ab.length=S.nodes.length
 lots:S.lots.length=S.nodes.length
 le:LE S.ab
 us:∀ c,c < S.nodes.length->S.ab[c]? = some c->∃ l,S.U c=some l
 ul:∀ c l,S.U c=some l->l.length<=200
 ll:∀ (i:Nat) (x:List Nat),S.lots[i]? = some x->x.length<=1000
 mg:S.mg.length<=100
 edges:S.edges.length<=5000
 forest:S.forest.length<=5000
 known:S.known.length<=5000
 wait:S.wait.length<=5000
 ul1000:S.ul<=1000
 kids:∀ nd∈S.nodes,nd.2.length<=10/\∀ k∈nd.2,k < S.nodes.length
 kn:∀ p∈S.known,p.2 < S.nodes.length
structure Wb (S:St):Prop where
 n30:S.nodes.length<=30
 ab:S.ab.length=S.nodes.length
 le:LE S.ab
theorem Wf.b {S:St}(Z:Wf S):Wb S:=⟨Z.n30,Z.ab,Z.le⟩
theorem zck {ab:List Nat}(hl:LE ab):∀ a,a < ab.length->root ab a < ab.length:=by
 intro a
 induction a using Nat.strongRecOn with
 | _ a ih =>
  intro ha
  by_cases h:ab.getD a a < a
  ·rw [zbg h];exact ih _ h (by exact bU (by assumption) (by assumption))
  ·rw [zak h];exact ha
theorem zaJ {ab:List Nat}(hl:LE ab):∀ a,a < ab.length->ab[root ab a]? = some (root ab a):=by
 intro a
 induction a using Nat.strongRecOn with
 | _ a ih =>
  intro ha
  by_cases h:ab.getD a a < a
  ·rw [zbg h];exact ih _ h (by exact bU (by assumption) (by assumption))
  ·rw [zak h]
   have e:ab[a]? = some ab[a]:=al ha
   have:=hl _ _ e
   have hD:ab.getD a a=ab[a]:=by simp [List.getD,e]
   rw [e];congr 1;lia
theorem zdC {ab:List Nat}(hl:LE ab){a:Nat}(ha:a < ab.length):root ab (root ab a)=root ab a:=by
 refine zak ?_
 have:=zaJ hl a ha
 simp [List.getD,this]
theorem zeS {ab:List Nat}:∀ a,root ab a<=a:=by
 intro a
 induction a using Nat.strongRecOn with
 | _ a ih =>
  by_cases h:ab.getD a a < a
  ·rw [zbg h];have:=ih _ h;exact nT ‹_› (az ‹_›)
  ·rw [zak h];exact an _
theorem zcN {X:Ctx}:fieldOk X.K zaa "bank" = true:=by kernel_rfl
theorem za7 {X:Ctx}:fieldOk X.K zaa "unions" = true:=by kernel_rfl
theorem ze5 {X:Ctx}:fieldOk X.K zaa "edges" = true:=by kernel_rfl
theorem zeN {X:Ctx}:fieldOk X.K zaa "forest" = true:=by kernel_rfl
theorem zeW {X:Ctx}:fieldOk X.K zaa "known" = true:=by kernel_rfl
theorem za6 {X:Ctx}:fieldOk X.K zaa "above" = true:=by kernel_rfl
theorem zbO {X:Ctx}:fieldOk X.K zaa "waiting" = true:=by kernel_rfl
theorem zbu {X:Ctx}:fieldOk X.K zaa "changes" = true:=by kernel_rfl
theorem zfk {X:Ctx}:fieldOk X.K zaa "marks" = true:=by kernel_rfl
theorem zkm {X:Ctx}:fieldOk X.K zaa "made" = true:=by kernel_rfl
noncomputable def HId:Id->Bool
 | .h n=>n < 16
 | .t _=>false
 | _=>true
noncomputable def Mine:Id->Bool
 | .h n=>n < 16
 | .t _=>false
 | .usr _=>false
 | _=>true
noncomputable def FrH (μ dl:Mem):Prop:=∀ j,Mine j=false->dl j=μ j
theorem FrH.rfl {μ:Mem}:FrH μ μ:=λ Y Y=>_root_.rfl
theorem FrH.trans {a b c:Mem}(x:FrH a b)(y:FrH b c):FrH a c:=λ j h=>(y j h).trans (x j h)
theorem FrH.set {μ dl:Mem}(x:FrH μ dl){k:Id}{o:MO}(h:Mine k=true):FrH μ (dl.set k o):=λ j hj=>(av (λ e=>by subst e;rw [h]at hj;cases hj)).trans (x j hj)
theorem BH.keep {μ dl:Mem}{nodes:List Nd}(B:BH μ nodes)(k:∀ n,n < 7->dl (.h n)=μ (.h n)):BH dl nodes:=by
 obtain⟨b1,b2,⟨x,b3,b4,b5⟩,⟨y,b6,b7⟩,⟨z,b8,b9⟩⟩:=B
 exact⟨(k _ (by decide)).trans b1,(k _ (by decide)).trans b2,⟨x,(k _ (by decide)).trans b3,b4,b5⟩,⟨y,(k _ (by decide)).trans b6,b7⟩,⟨z,(k _ (by decide)).trans b8,b9⟩⟩
theorem UH.keep {μ dl:Mem}{ab:List Nat}{lots:List (List Nat)}{mg:List (Nat × Nat)}(U:UH μ ab lots mg)(k:∀ n,n < 10->dl (.h n)=μ (.h n))(kl:∀ c,dl (.lot c)=μ (.lot c)):UH dl ab lots mg :=
 ⟨(k _ (by decide)).trans U.hu,(k _ (by decide)).trans U.hab,(k _ (by decide)).trans U.hlots,λ i x h=>(kl _).trans (U.hlot i x h),(k _ (by decide)).trans U.hmg⟩
theorem BH.keep' {μ dl:Mem}{nodes:List Nd}(B:BH μ nodes)(k:∀ n,n=1∨(3<=n/\n<=6)->dl (.h n)=μ (.h n)):BH dl nodes:=by
 obtain⟨b1,b2,⟨x,b3,b4,b5⟩,⟨y,b6,b7⟩,⟨z,b8,b9⟩⟩:=B
 exact⟨(k _ (by decide)).trans b1,(k _ (by decide)).trans b2,⟨x,(k _ (by decide)).trans b3,b4,b5⟩,⟨y,(k _ (by decide)).trans b6,b7⟩,⟨z,(k _ (by decide)).trans b8,b9⟩⟩
theorem UH.keep' {μ dl:Mem}{ab:List Nat}{lots:List (List Nat)}{mg:List (Nat × Nat)}(U:UH μ ab lots mg)(k:∀ n,n=2∨(7<=n/\n<=9)->dl (.h n)=μ (.h n))(kl:∀ c,dl (.lot c)=μ (.lot c)):UH dl ab lots mg :=
 ⟨(k _ (by decide)).trans U.hu,(k _ (by decide)).trans U.hab,(k _ (by decide)).trans U.hlots,λ i x h=>(kl _).trans (U.hlot i x h),(k _ (by decide)).trans U.hmg⟩
theorem HB.keep {μ dl:Mem}{w made:Nat}{nodes:List Nd}{ab:List Nat}{lots:List (List Nat)}{mg:List (Nat × Nat)}(H:HB μ w made nodes ab lots mg)(k:∀ n,n < 10->dl (.h n)=μ (.h n))(kl:∀ c,dl (.lot c)=μ (.lot c)):HB dl w made nodes ab lots mg :=
 ⟨(k _ (by decide)).trans H.obj,H.B.keep λ n h=>k n (by exact nT (by assumption) (nB rfl)),H.U.keep k kl⟩
theorem Mk.keep {μ dl:Mem}{w:Nat}{m:Mark}(h:Mk μ w m)(k:dl (.h 15)=μ (.h 15))(k':dl (.w (w+1))=μ (.w (w+1))):Mk dl w m:=by
 induction m with
 | no=>exact⟨k.trans h.1,k'.trans h.2⟩
 | on m=>exact⟨k.trans h.1,k'.trans h.2⟩
 | off=>exact⟨k.trans h.1,k'.trans h.2⟩
noncomputable def FrL (μ dl:Mem):Prop:=∀ j,j ≠ .h 0->j ≠ .h 12->j ≠ .h 14->dl j=μ j
theorem FrL.rfl {μ:Mem}:FrL μ μ:=λ Y Y Y Y=>_root_.rfl
theorem FrL.trans {a b c:Mem}(x:FrL a b)(y:FrL b c):FrL a c:=λ j h1 h2 h3=>(y j h1 h2 h3).trans (x j h1 h2 h3)
theorem HS.keep {μ dl:Mem}{w:Nat}{S:St}(H:HS μ w S)(k:∀ j,HId j=true->dl j=μ j):HS dl w S:=by
 have ku:∀ c,dl (.usr c)=μ (.usr c):=λ c=>k _ _root_.rfl
 refine E13 (H.us) λ es e1 e2 e3=>?_
 refine E12 (H.changes) λ cs c1 c2=>?_
 exact⟨H.hb.keep (λ n h=>k _ (cx (nT (by assumption) (nB rfl)))) (λ c=>k _ _root_.rfl),(k _ (by decide)).trans H.edges,(k _ (by decide)).trans H.forest,(k _ (by decide)).trans H.known,⟨es,(k _ (by decide)).trans e1,e2.keep ku,e3⟩,(k _ _root_.rfl).trans H.wait,⟨cs,(k _ (by decide)).trans c1,c2.keep ku⟩,H.marks.keep (k _ (by decide)) (k _ _root_.rfl),λ j h=>(k _ _root_.rfl).trans (H.fresh j h)⟩
theorem hne {m n:Nat}(h:n≠m){μ:Mem}{o:MO}:(μ.set (.h m) o) (.h n)=μ (.h n):=av (by simpa using h)
theorem une {m c:Nat}{μ:Mem}{o:MO}:(μ.set (.h m) o) (.usr c)=μ (.usr c):=av (by first | exact aI rfl | simp)
theorem lne {m c:Nat}{μ:Mem}{o:MO}:(μ.set (.h m) o) (.lot c)=μ (.lot c):=av (by first | exact aI rfl | simp)
theorem wne {m c:Nat}{μ:Mem}{o:MO}:(μ.set (.h m) o) (.w c)=μ (.w c):=av (by first | exact aI rfl | simp)
section
variable {μ:Mem}{w:Nat}{S:St}(H:HS μ w S)
include H
theorem HS.us' {m:Nat}(h:13≠m){o:MO}:∃ es,(μ.set (.h m) o) (.h 13)=some (.dI es)/\UsOk (μ.set (.h m) o) es S.U/\es.length=S.ul:=by
 refine E13 (H.us) λ es e1 e2 e3=>?_
 exact⟨es,(hne h).trans e1,e2.keep λ Y=>une,e3⟩
theorem HS.ch' {m:Nat}(h:14≠m){o:MO}:∃ cs,(μ.set (.h m) o) (.h 14)=some (.list cs)/\ChVs (μ.set (.h m) o) S.changes cs:=by
 refine E12 (H.changes) λ cs c1 c2=>?_
 exact⟨cs,(hne h).trans c1,c2.keep λ Y=>une⟩
theorem HS.hb' {m:Nat}(h:10<=m){o:MO}:HB (μ.set (.h m) o) w S.made S.nodes S.ab S.lots S.mg:=H.hb.keep (λ n h'=>hne (by exact aF (nT ‹_› ‹_›))) λ Y=>lne
theorem HS.setEdges {e:List (Nat × Nat × List Str)}{l:List V}(h:l=e.map edgeV):HS (μ.set (.h 10) (.list l)) w (S.wE e) :=
 ⟨H.hb' (by decide),by rw [h];exact aN,(hne (by decide)).trans H.forest,(hne (by decide)).trans H.known,H.us' (by decide),wne.trans H.wait,H.ch' (by decide),H.marks.keep (hne (by decide)) wne,λ j h=>wne.trans (H.fresh j h)⟩
theorem HS.setForest {e:List Nat}{l:List V}(h:l=e.map VN):HS (μ.set (.h 11) (.list l)) w (S.wF e) :=
 ⟨H.hb' (by decide),(hne (by decide)).trans H.edges,by rw [h];exact aN,(hne (by decide)).trans H.known,H.us' (by decide),wne.trans H.wait,H.ch' (by decide),H.marks.keep (hne (by decide)) wne,λ j h=>wne.trans (H.fresh j h)⟩
theorem HS.setKnown {e:List (Nd × Nat)}{l:List (List KA × V)}(h:l=knV e):HS (μ.set (.h 12) (.dT l)) w (S.wK e) :=
 ⟨H.hb' (by decide),(hne (by decide)).trans H.edges,(hne (by decide)).trans H.forest,by rw [h];exact aN,H.us' (by decide),wne.trans H.wait,H.ch' (by decide),H.marks.keep (hne (by decide)) wne,λ j h=>wne.trans (H.fresh j h)⟩
theorem HS.setUs {es:List (Int × V)}{U:Nat->Option (List Nat)}{n:Nat}(h1:UsOk μ es U)(h2:es.length=n):HS (μ.set (.h 13) (.dI es)) w (S.wU U n) :=
 ⟨H.hb' (by decide),(hne (by decide)).trans H.edges,(hne (by decide)).trans H.forest,(hne (by decide)).trans H.known,⟨es,aN,h1.keep λ Y=>une,h2⟩,wne.trans H.wait,H.ch' (by decide),H.marks.keep (hne (by decide)) wne,λ j h=>wne.trans (H.fresh j h)⟩
theorem HS.setCh {cs:List V}{c:List Ch}(h:ChVs μ c cs):HS (μ.set (.h 14) (.list cs)) w (S.wC c) :=
 ⟨H.hb' (by decide),(hne (by decide)).trans H.edges,(hne (by decide)).trans H.forest,(hne (by decide)).trans H.known,H.us' (by decide),wne.trans H.wait,⟨cs,aN,h.keep λ Y=>une⟩,H.marks.keep (hne (by decide)) wne,λ j h=>wne.trans (H.fresh j h)⟩
theorem HS.setWait {e:List Nat}{l:List V}(h:l=e.map VN):HS (μ.set (.w w) (.list l)) w (S.wW e):=by
 have k1:∀ n,(μ.set (.w w) (.list l)) (.h n)=μ (.h n):=λ n=>av (by first | exact aI rfl | simp)
 have k2:∀ n,(μ.set (.w w) (.list l)) (.usr n)=μ (.usr n):=λ n=>av (by first | exact aI rfl | simp)
 have k3:∀ n,w < n->(μ.set (.w w) (.list l)) (.w n)=μ (.w n):=λ n h=>av (by simp;exact bu (by assumption))
 refine E13 (H.us) λ es e1 e2 e3=>?_
 refine E12 (H.changes) λ cs c1 c2=>?_
 exact⟨H.hb.keep (λ n Y=>k1 n) (λ c=>av (by first | exact aI rfl | simp)),(k1 _).trans H.edges,(k1 _).trans H.forest,(k1 _).trans H.known,⟨es,(k1 _).trans e1,e2.keep k2,e3⟩,by rw [h];exact aN,⟨cs,(k1 _).trans c1,c2.keep k2⟩,H.marks.keep (k1 _) (k3 _ (by exact an _)),λ j h=>(k3 _ (by exact az (by assumption))).trans (H.fresh j h)⟩
theorem HS.setU {dl:Mem}{ab':List Nat}{lots':List (List Nat)}{mg':List (Nat × Nat)}{k:Nat}(U:UH dl ab' lots' mg')(fr:∀ id,id ≠ .h 7->id ≠ .h 8->id ≠ .h 9->id ≠ .lot k->dl id=μ id):HS dl w (S.wA ab' lots' mg'):=by
 have ku:∀ c,dl (.usr c)=μ (.usr c):=λ c=>fr _ (by first | exact aI rfl | simp) (by first | exact aI rfl | simp) (by first | exact aI rfl | simp) (by first | exact aI rfl | simp)
 have kh:∀ n,n≠7->n≠8->n≠9->dl (.h n)=μ (.h n):=λ n h h' h2=>fr _ (by simpa using h) (by simpa using h') (by simpa using h2) (by first | exact aI rfl | simp)
 have kw:∀ n,dl (.w n)=μ (.w n):=λ n=>fr _ (by first | exact aI rfl | simp) (by first | exact aI rfl | simp) (by first | exact aI rfl | simp) (by first | exact aI rfl | simp)
 refine E13 (H.us) λ es e1 e2 e3=>?_
 refine E12 (H.changes) λ cs c1 c2=>?_
 exact⟨⟨(kh _ (by decide) (by decide) (by decide)).trans H.obj,H.B.keep (λ n h=>kh _ (by exact aF (by assumption)) (by exact aF (nT ‹_› (by decide))) (by exact aF (nT ‹_› (by decide)))),U⟩,(kh _ (by decide) (by decide) (by decide)).trans H.edges,(kh _ (by decide) (by decide) (by decide)).trans H.forest,(kh _ (by decide) (by decide) (by decide)).trans H.known,⟨es,(kh _ (by decide) (by decide) (by decide)).trans e1,e2.keep ku,e3⟩,(kw _).trans H.wait,⟨cs,(kh _ (by decide) (by decide) (by decide)).trans c1,c2.keep ku⟩,H.marks.keep (kh _ (by decide) (by decide) (by decide)) (kw _),λ j h=>(kw _).trans (H.fresh j h)⟩
end
section
variable {X:Ctx}{l:Nat}{μ:Mem}
variable {R:Nat->Option Obj}{env:Env}{ρ:Loc}{w:Nat}{S:St}
theorem hF {x name:Str}{v:V}{p1 p2:Pos}{Q:V->Mem->Prop}(H:HS μ w S)(hs:Lk ρ x (.ref (.h 0)))(hx:Lk (heapF w S.made) name v)(hf:fieldOk (X.K) zaa name=true)(hh:Handed v)(q:Q v μ)
  (hd:(x == ("__debug__":Str))=false:=by decide) (hc:(x == ("__classdict__":Str))=false:=by decide)
  (he:∀ env,eval (.Attribute (.Name x p1) name p2) env=(do let o <- eval (.Name x p1) env;standAt p2.atName;let r <- PySem.holding [o] (getAttr o name true);letTemporaryGo (.Name x p1) o r;pure r):=by intro _;rfl) :
  W X l R env ρ μ (.Attribute (.Name x p1) name p2) Q:=dd hs H.obj hx (by exact hf) hh q hd hc he
end
inductive Opt1 (n:Str):Loc->Prop
 | nil:Opt1 n []
 | one {v:V}:Opt1 n [(n,v)]
theorem Opt1.up {n:Str}{ρ:Loc}{x:V}(h:Opt1 n ρ):Up ρ n x [(n,x)]:=by
 induction h with
 | nil=>exact .new
 | one=>exact .here
section
variable {X:Ctx}{l:Nat}{μ:Mem}{R:Nat->Option Obj}{env:Env}{ρ:Loc}{w:Nat}{S:St}(H:HS μ w S){Q:V->Mem->Prop}
include H
theorem HS.apE {e:Nat × Nat × List Str}(hz:S.edges.length<=5000)(q:∀ dl,HS dl w (S.wE (S.edges ++ [e]))->FrH μ dl->Q .none dl):CV X l R env ρ μ (.builtin "list.append") [.ref (.h 10),edgeV e] Q :=
 cQ H.edges (sz (by rw [ah];exact nT (by assumption) (nB rfl))) (q _ (H.setEdges (ax (f:=edgeV) (l₂:=[e])).symm) (FrH.rfl.set rfl))
theorem HS.apF {e:Nat}(hz:S.forest.length<=5000)(q:∀ dl,HS dl w (S.wF (S.forest ++ [e]))->FrH μ dl->Q .none dl):CV X l R env ρ μ (.builtin "list.append") [.ref (.h 11),VN e] Q :=
 cQ H.forest (sz (by rw [ah];exact nT (by assumption) (nB rfl))) (q _ (H.setForest (ax (f:=VN) (l₂:=[e])).symm) (FrH.rfl.set rfl))
theorem HS.apC {c:Ch}{v:V}(hz:S.changes.length<=50000)(hv:ChV μ c v)(q:∀ dl,HS dl w (S.wC (S.changes ++ [c]))->FrH μ dl->FrL μ dl->Q .none dl):CV X l R env ρ μ (.builtin "list.append") [.ref (.h 14),v] Q:=by
 refine E12 (H.changes) λ cs c1 c2=>?_
 exact cQ c1 (sz (by rw [c2.length];exact nT (by assumption) (nB rfl))) (q _ (H.setCh (c2.snoc hv)) (FrH.rfl.set rfl) λ j Y Y h=>av h)
theorem HS.exW {v:V}{l':List Nat}(hz:S.wait.length+l'.length<=100000)(hv:UV μ v l')(q:∀ dl,HS dl w (S.wW (S.wait ++ l'))->FrH μ dl->Q .none dl):CV X l R env ρ μ (.builtin "list.extend") [.ref (.w w),v] Q :=
 CV.extend H.wait hv.rd (by rw [ah,ah];exact nT (by assumption) (nB rfl)) (q _ (H.setWait (ax (f:=VN)).symm) (FrH.rfl.set rfl))
theorem HS.usIt {value slice:Expr}{c:Nat}{l':List Nat}(hc:S.U c=some l')(q:∀ v,UV μ v l'->Q v μ)
  (hs:∀ a b,subscripted slice false a b=operate [a,b] (getItem a b):=by intros;rfl):P2 X (l+1) R env ρ μ (subscriptTail value slice) (.ref (.h 13)) (VN c) Q:=by
 refine E13 (H.us) λ es e1 e2 e3=>?_
 refine E12 (e2.get hc) λ v g1 g2=>?_
 exact P2.itemD (kd:=kI) (key:=(c:Int)) e1 g1 (q v g2) hs
theorem HS.usPop {c:Nat}{l':List Nat}(hc:S.U c=some l')(hz:S.ul<=1000)(q:∀ v dl,UV dl v l'->HS dl w (S.wU (upd S.U c none) (S.ul - 1))->FrH μ dl->(∀ v l',UV μ v l'->UV dl v l')->Q v dl):CV X (l+1) R env ρ μ (.builtin "dict.pop") [.ref (.h 13),VN c] Q:=by
 refine E13 (H.us) λ es e1 e2 e3=>?_
 refine E12 (e2.get hc) λ v g1 g2=>?_
 exact CV.popD e1 (sz (by exact nT (aG ‹_›) (nT ‹_› (by decide)))) g1 (q v _ (g2.keep λ Y=>une) (H.setUs e2.del (by have:=zgO g1;exact nqU ‹_› ‹_›)) (FrH.rfl.set rfl) λ Y Y h=>h.keep λ Y=>une)
theorem HS.usSet {c:Nat}{l':List Nat}{v:V}(hv:UV μ v l')(hz:S.ul<=1000){Q:Mem->Prop}(q:∀ dl,HS dl w (S.wU (upd S.U c (some l')) (if (S.U c).isSome then S.ul else S.ul+1))->FrH μ dl->Q dl):SI X (l+1) R env ρ μ (.ref (.h 13)) (VN c) v Q:=by
 refine E13 (H.us) λ es e1 e2 e3=>?_
 refine SI.dict (kd:=kI) (key:=(c:Int)) e1 (sz (by exact nT (aG ‹_›) (nT ‹_› (by decide)))) (q _ (H.setUs (e2.put hv) ?_) (FrH.rfl.set rfl))
 rw [zg7]
 induction hc:S.U c with
 | none=>rw [aB (e2.no hc)];simp;exact e3
 | some l =>
  refine E12 (e2.get hc) λ u u1 _=>?_
  rw [u1];simp;exact e3
end
noncomputable def nkey (ab:List Nat)(nd:Nd):Nd:=(nd.1,nd.2.map (root ab))
section
variable {X:Ctx}{l:Nat}{μ:Mem}
variable {R:Nat->Option Obj}{env:Env}{ρ:Loc}{w:Nat}{S:St}
theorem zek {a:Nat}{Q:V->Mem->Prop}(H:HS μ w S)(Z:Wb S)(ha:a < S.nodes.length)(q:Q (VN (root S.ab a)) μ):Cs X (l+2) (.ref zbf) [.ref (.h 0),VN a] μ Q:=by
 refine zga λ R L=>bZ (aW (hF H .here za9 za7 trivial (bc H.U.hu (f:=zao) (by kernel_rfl) (by decide) ⟨by kernel_rfl,?_⟩)))
 exact aj (ak (.there .here) (aq (aU (zcJ H.U Z.le (by rw [Z.ab];exact ha) (by have:=Z.ab;have:=Z.n30;exact nT (aG ‹_›) (nT ‹_› (by decide))) q))))
theorem W.find {x:Str}{e:Expr}{p1 p2 p3:Pos}{Q:V->Mem->Prop}(hs:Lk ρ x (.ref (.h 0)))(H:HS μ w S)(Z:Wb S)(h:W X (l+2) R env ρ μ e λ v dp=>∃ a,v=VN a/\dp=μ/\a < S.nodes.length/\Q (VN (root S.ab a)) μ)
  (hd:(x == ("__debug__":Str))=false:=by decide) (hc:(x == ("__classdict__":Str))=false:=by decide)
  (hp:true=noStar [e]:=by exact rfl)
  {pl:Sem Bool} (he:(eval (((Expr.Name x p1).Attribute "find" p2).Call [e] [] p3) env=do
     let ov <- eval (.Name x p1) env
     standAt p2.atName
     let x <- PySem.holding [ov] (getMethod ov "find" pl)
     match x with
      | (f,first)=>PySem.callWith p3 f first (backTo p3 (starEach [e] env)) (backToKw p3 (keywordEach [] env))):=by rfl) :
  W X (l+2) R env ρ μ (.Call (.Attribute (.Name x p1) "find" p2) [e] [] p3) Q:=by
 refine aW (ak hs (bc H.obj (f:=zbf) (by kernel_rfl) (zab (by decide)) ⟨by kernel_rfl,aj (h.mono ?_) hp⟩) hd hc) hp he
 intro v dp q0;refine E14 (q0) λ a q9 q8 ha q=>?_;clear q0;subst q9;subst q8
 exact aq (aU (zek H Z ha q))
theorem zfl {n:Nat}{nd:Nd}{nodes:List Nd}{Q:V->Mem->Prop}(B:BH μ nodes)(hz:nodes.length<=30)(hn:nodes[n]? = some nd)(q:Q (.str nd.1) μ):Cs X (l+1) (.ref zbt) [.ref (.h 1),VN n] μ Q:=by
 have hl:n < nodes.length:=List.getElem?_eq_some_iff.mp hn |>.1
 refine zih λ R L=>bZ (cC (cC (dd .here B.obj .here (by kernel_rfl) trivial (ak (.there .here) (bX (z:=ndV nd) (.ref B.nds) (by exact nT (az ‹_›) (nT ‹_› (by decide))) (by rw [aD,hn];rfl) ?_)))))
 exact cT (n:=0) (P2.itemTN (i:=0) (by decide) rfl q)
theorem zcU {n:Nat}{nd:Nd}{nodes:List Nd}{Q:V->Mem->Prop}(B:BH μ nodes)(hz:nodes.length<=30)(hn:nodes[n]? = some nd)(hk:nd.2.length<=10)(q:Q (.tup (nd.2.map VN)) μ):Cs X (l+1) (.ref zaS) [.ref (.h 1),VN n] μ Q:=by
 have hl:n < nodes.length:=List.getElem?_eq_some_iff.mp hn |>.1
 refine zgg λ R L=>bZ (W.sliceT (cC (dd .here B.obj .here (by kernel_rfl) trivial (ak (.there .here) (bX (z:=ndV nd) (.ref B.nds) (by exact nT (az ‹_›) (nT ‹_› (by decide))) (by rw [aD,hn];rfl) ?_)))))
 exact WP.one (cT ⟨1,rfl,_,1,rfl,rfl,by exact an _,by simp,sz (by simp;exact nT (by assumption) (nB rfl)),q⟩)
theorem zhj {n:Nat}{nd:Nd}{Q:V->Mem->Prop}(H:HS μ w S)(Z:Wf S)(hn:S.nodes[n]? = some nd)(q:Q (ndV (nkey S.ab nd)) μ):Cs X (l+3) (.ref zbz) [.ref (.h 0),VN n] μ Q:=by
 have hl:n < S.nodes.length:=List.getElem?_eq_some_iff.mp hn |>.1
 have hm:=Z.kids nd (ap hn)
 refine zgv λ R L=>bZ (cF (cm (aj (aW (hF H .here zcF zcN trivial (bc H.B.obj (f:=zbt) (by kernel_rfl) (by decide) ⟨by kernel_rfl,?_⟩))))))
 refine aj (ak (.there .here) (aq (aU (zfl H.B Z.n30 hn (aq ⟨szr rfl,?_⟩)))))
 refine cB (.type "tuple") (aj (dg (zac rfl) (cA (aW (hF H .here zcF zcN trivial (bc H.B.obj (f:=zaS) (by kernel_rfl) (by decide) ⟨by kernel_rfl,?_⟩))))))
 refine aj (ak (.there .here) (aq (aU (zcU H.B Z.n30 hn hm.1 ?_))))
 refine⟨_,_,_,IT.tup,trivial,trivial,[(("self":Str),.ref (.h 0))],λ i ys dm dl=>dl=μ/\ys=(nd.2.take i).map (λ k=>VN (root S.ab k))/\∃ r,dm=(("self":Str),V.ref (.h 0)) :: r/\Opt1 "kid" r,?_,by decide,λ Y Y Y Y Y=>trivial,⟨rfl,rfl,[],rfl,.nil⟩,?_,?_⟩
 ·exact cell1 .here
 ·intro R' C cl i z ys dm dl hz q0;refine E03 (q0) λ q9 q8 q7=>?_;clear q0;subst q9;subst q8;obtain⟨r,rfl,o⟩:=q7
  apply mapE hz;intro k hk
  have hkl:k < S.nodes.length:=hm.2 k (ap hk)
  refine ba (.inl rfl) (.there (by decide) o.up) (cR ⟨λ Y R9=>W.find .here H Z.b (ak (.there .here) ⟨k,rfl,rfl,hkl,sz (by simp;exact nT (bg _ _) (nT (And.left ‹_›) (by decide))),rfl,?_,_,rfl,.one⟩),λ e=>dead e⟩)
  rw [aK,hk,ax];rfl
 ·intro ys dm dl q0;refine E03 (q0) λ q9 q8 _=>?_;clear q0;subst q9;subst q8
  refine .inl (aq (CV.tupleL .lst (sz (by simp;exact nT (And.left ‹_›) (by decide))) (P2.addT (sz (by simp;exact nqV ‹_›)) ?_)))
  have:nd.2.take (nd.2.map VN).length=nd.2:=by rw [ah,aV]
  rw [this]
  unfold ndV nkey at q
  rw [bv]at q
  exact q
end
noncomputable def lo (S:St)(a b:Nat):Nat:=min (root S.ab a) (root S.ab b)
noncomputable def hi (S:St)(a b:Nat):Nat:=max (root S.ab a) (root S.ab b)
noncomputable def uu (S:St)(c:Nat):List Nat:=(S.U c).getD []
noncomputable def hjoin (S:St)(a b:Nat)(r:List Str):St :=
 if root S.ab a=root S.ab b then S.wE (S.edges ++ [(a,b,r)])
 else ((((S.wE (S.edges ++ [(a,b,r)])).wA (S.ab.set (hi S a b) (lo S a b)) (S.lots.set (lo S a b) (S.lots.getD (lo S a b) [] ++ S.lots.getD (hi S a b) [])) (S.mg ++ [(lo S a b,hi S a b)])).wF (S.forest ++ [S.edges.length])).wW (S.wait ++ uu S (hi S a b))).wU
  (upd (upd S.U (hi S a b) none) (lo S a b) (some (uu S (lo S a b) ++ uu S (hi S a b)))) (S.ul - 1)
theorem Wf.us_lo {S:St}(Z:Wf S){a:Nat}(ha:a < S.nodes.length):S.U (root S.ab a)=some (uu S (root S.ab a)):=by
 obtain⟨l,h⟩:=Z.us _ (by have:=zck Z.le a (by rw [Z.ab];exact ha);rw [Z.ab]at this;exact this) (zaJ Z.le a (by rw [Z.ab];exact ha))
 unfold uu;rw [h];rfl
section
variable {X:Ctx}{l:Nat}{μ:Mem}
variable {R:Nat->Option Obj}{env:Env}{ρ:Loc}{w:Nat}{S:St}
theorem zhM {a b:Nat}{r:List Str}{Q:V->Mem->Prop}(H:HS μ w S)(Z:Wf S)(ha:a < S.nodes.length)(hb:b < S.nodes.length)
  (q:∀ x dl,HS dl w (hjoin S a b r)->FrH μ dl->Q x dl):Cs X (l+3) (.ref zbD) [.ref (.h 0),VN a,VN b,rsV r] μ Q:=by
 have ZA:=Z.ab
 have ra:=zck Z.le a (by simp only [*,an])
 have rb:=zck Z.le b (by simp only [*,an])
 have ua:=Z.us_lo ha
 have ub:=Z.us_lo hb
 have n30:=Z.n30
 have zm:=Z.mg
 have ze:=Z.edges
 refine zgt λ R L=>XB.loc4 λ ρ ns na nb nr=>?_
 refine cO<|aW<|hF H ns zfi ze5 trivial<|cL zaj (.ref H.edges) ⟨rfl,aj<|cm<|aj<|ak na<|aj<|ak nb<|aj<|ak nr<|aq ⟨szr rfl,aq<|H.apE (e:=(a,b,r)) ze λ dG H1 F1=>?_⟩⟩
 refine db (.inl rfl)<|aW<|hF H1 ns za9 za7 trivial<|bc H1.U.hu (f:=zaU) (by kernel_rfl) (by decide) ⟨by kernel_rfl,aj<|ak na<|aj<|ak nb<|aq<|aU ?_⟩
 have U1:UH dG S.ab S.lots S.mg:=H1.U
 refine(zhX U1 Z.le (by simp only [*,an]) (by simp only [*,an]) (by exact nT (aG ‹_›) (nT ‹_› (by decide))) (zck Z.le) (by rw [Z.lots,Z.ab]) Z.ll (by exact nT (by assumption) (nB rfl)) ?_ ?_)
 ·intro e
  refine cD ρ "merged" .none λ dE u1=>⟨_,u1,?_⟩
  refine cZ<|cr<|ak u1.lk<|W.cnone<|P2.isNone trivial λ c hc=>bz ⟨λ Y=>bZ<|W.cbool ⟨λ e=>dead e,λ x e'=>?_⟩,λ h=>absurd (hc.mpr rfl) (by rw [h];decide)⟩
  refine q _ _ ?_ F1
  have:hjoin S a b r=S.wE (S.edges ++ [(a,b,r)]):=aB e
  rw [this];exact H1
 ·intro k g hk hg hkg dA U2 fr
  have hne:root S.ab a≠root S.ab b:=λ e=>aF hkg (hk.trans ((zcY.mpr e).trans hg.symm))
  have uk:S.U k=some (uu S k):=by
   have:k=root S.ab a∨k=root S.ab b:=by rw [hk];exact ziQ _ _
   rcases this with h | h <;> rw [h] <;> assumption
  have ug:S.U g=some (uu S g):=by
   have:g=root S.ab a∨g=root S.ab b:=by rw [hg];exact zh8 _ _
   rcases this with h | h <;> rw [h] <;> assumption
  have lk:=Z.ul _ _ uk
  have lg:=Z.ul _ _ ug
  have zw:=Z.wait
  have zu:=Z.ul1000
  have H2:=H1.setU U2 λ id a Y b c=>fr id a b c
  have F2:FrH μ dA:=λ j hj=>(fr j (λ e=>by subst e;cases hj) (λ e=>by subst e;cases hj) (λ e=>by subst e;cases hj)).trans (F1 j hj)
  refine Up.e3 ρ "merged" (.tup [VN k,VN g]) "kept" (VN k) "gone" (VN g) λ dE u1 dH u2 dX u3=>⟨_,u1,?_⟩
  refine cZ<|cr<|ak u1.lk<|W.cnone<|P2.isNone trivial λ c hc=>bz ⟨λ h=>(by cases hc.mp h),λ Y=>di ?_⟩
  refine bJ<|cP<|ak u1.lk<|da<|dj rfl<|bI<|ba (.inl rfl) u2<|bI<|ba (.inl rfl) u3<|cX ⟨rfl,?_⟩
  have ns:=u3.lk' (u2.lk' (u1.lk' ns (by decide)) (by decide)) (by decide)
  have nk:=u3.lk' u2.lk (by decide)
  have ng:=u3.lk
  clear u1 u2 u3 na nb nr
  refine cO<|aW<|hF H2 ns zff zeN trivial<|cL zaj (.ref H2.forest) ⟨rfl,aj<|cF<|cB (.builtin "len") (aj<|hF H2 ns zfi ze5 trivial<|aq<|cW (.ref H2.edges) (sz ?_) ?_)⟩
  ·show (List.map edgeV (S.edges ++ [(a,b,r)])).length<=_
   rw [ah,aC];simp;exact nT (by assumption) (nB rfl)
  refine cT (n:=1)<|P2.subI ?_
  have e1:(((List.map edgeV (S.edges ++ [(a,b,r)])).length:Int) - (1:Nat))=(S.edges.length:Nat):=by
   rw [ah,aC];simp
  refine aq<|(?_:CV _ _ _ _ _ _ _ [_,V.int (((List.map edgeV (S.edges ++ [(a,b,r)])).length:Int) - (1:Nat))] _)
  refine bo (e1) ▸ ?_
  refine H2.apF Z.forest λ dD H3 F3=>?_
  refine cO<|aW<|hF H3 ns zbX zbO trivial<|cL zgW (.ref H3.wait) ⟨rfl,aj<|cC<|hF H3 ns za5 za6 trivial<|ak ng<|H3.usIt ug λ vg hvg=>aq<|H3.exW (by show S.wait.length+_<=_;exact nsq ‹_› ‹_›) hvg λ dM H4 F4=>?_⟩
  refine XB.setI<|cF<|cC<|hF H4 ns za5 za6 trivial<|ak nk<|H4.usIt uk λ vk hvk=>?_
  obtain⟨es,e1,-,-⟩:=H4.us
  refine aW<|hF H4 ns za5 za6 trivial<|GM.dict zkp e1 .i ⟨rfl,aj<|ak ng<|aq<|H4.usPop ug zu λ vg dZ hvg H5 F5 ku=>P2.addL (ku _ _ hvk).rd hvg.rd (sz (by rw [ah,ah];exact nsq ‹_› ‹_›)) (.inl ?_)⟩
  rw [<- ax]
  refine hF H5 ns za5 za6 trivial<|ak nk<|H5.usSet .lst (by show S.ul - 1<=_;exact nT (Nat.sub_le _ _) (‹_›)) λ eA H6 F6=>bZ<|W.cbool<|q _ _ ?_ ((((F2.trans F3).trans F4).trans F5).trans F6)
  have hs:(upd S.U g none k).isSome=true:=by unfold upd;rw [aw (by exact aF (by assumption)),uk];rfl
  have H7:HS eA w (((((S.wE (S.edges ++ [(a,b,r)])).wA (S.ab.set g k) (S.lots.set k (S.lots.getD k [] ++ S.lots.getD g [])) (S.mg ++ [(k,g)])).wF (S.forest ++ [S.edges.length])).wW (S.wait ++ uu S g)).wU (upd (upd S.U g none) k (some (uu S k ++ uu S g))) (if (upd S.U g none k).isSome=true then S.ul - 1 else S.ul - 1+1)):=H6
  rw [aB hs,hk,hg]at H7
  have:hjoin S a b r=_:=aw hne
  rw [this];exact H7
end
noncomputable def ljoin (S:St)(a b:Nat)(r:List Str):St:=hjoin (S.wC (S.changes ++ [.edge (lo S a b) (uu S (lo S a b)).length (hi S a b) (uu S (hi S a b))])) a b r
theorem Wf.wC {S:St}(Z:Wf S)(c:List Ch):Wf (S.wC c):=⟨Z.n30,Z.ab,Z.lots,Z.le,Z.us,Z.ul,Z.ll,Z.mg,Z.edges,Z.forest,Z.known,Z.wait,Z.ul1000,Z.kids,Z.kn⟩
section
variable {X:Ctx}{l:Nat}{μ:Mem}
variable {R:Nat->Option Obj}{env:Env}{ρ:Loc}{w:Nat}{S:St}
theorem zjn:SuperOk X zba zeL zeJ zaa zaa zbD "join" zaV.scope where
 fd:=⟨_,_,zaV,_,_,by unfold Ctx.K;rfl,rfl,rfl⟩
 code:=⟨_,_,_,_,_,_,by unfold Ctx.K;rfl,rfl,by unfold Ctx.prog;rfl⟩
 cell:=⟨_,_,_,by unfold Ctx.K;rfl⟩
 cls:=⟨_,by unfold Ctx.K;rfl⟩
 sub:=by kernel_rfl
 super:=by kernel_rfl
 at_:=by decide
 ks:=rfl
 kc:=rfl
 ka:=rfl
 kind:=rfl
 top:=by kernel_rfl
 third:=by kernel_rfl
 meth:=by kernel_rfl
 fn:=by kernel_rfl
 fn2:=by kernel_rfl
theorem zee {a b:Nat}{r:List Str}{Q:V->Mem->Prop}(H:HS μ w S)(Z:Wf S)(hc:S.changes.length<=50000)(ha:a < S.nodes.length)(hb:b < S.nodes.length)
  (q:∀ x dl,HS dl w (ljoin S a b r)->FrH μ dl->Q x dl):Cs X (l+4) (.ref zba) [.ref (.h 0),VN a,VN b,rsV r] μ Q:=by
 have ZA:=Z.ab
 have ua:=Z.us_lo ha
 have ub:=Z.us_lo hb
 refine Cs.plainAt (fd:=zaV) (body:=ze8) (ps:=["self","a","b","reason"]) (by kernel_rfl) rfl (by kernel_rfl) (λ vs h=>by refine E41 (len4 h) λ v0 v1 v2 v3 q9=>?_;subst q9;rfl) (by decide) rfl λ R L=>?_
 refine XAt.step<|cP<|cB (.builtin "sorted") (aj<|cV<|aj<|W.find .here H Z.b<|ak (.there .here) ⟨a,rfl,rfl,ha,aj<|W.find .here H Z.b<|ak (.there (.there .here)) ⟨b,rfl,rfl,hb,aq ⟨szr rfl,.inl (aq (CV.sortedL (ns:=[(root S.ab a:Int),(root S.ab b:Int)]) .lst (by first | exact aI rfl | simp) λ ns' hp hs=>.inl ?_))⟩⟩⟩)
 refine bo (sorted2 hp hs) ▸ ?_
 refine da<|UN.list .lst rfl<|bI<|ba (.inl rfl) (.there (by decide) (.there (by decide) (.there (by decide) (.there (by decide) .new))))<|bI<|ba (.inl rfl) (.there (by decide) (.there (by decide) (.there (by decide) (.there (by decide) (.there (by decide) .new)))))<|cX ⟨rfl,?_⟩
 have uk:S.U (lo S a b)=some (uu S (lo S a b)):=by
  have:lo S a b=root S.ab a∨lo S a b=root S.ab b:=ziQ _ _
  rcases this with h | h <;> rw [h] <;> assumption
 have ug:S.U (hi S a b)=some (uu S (hi S a b)):=by
  have:hi S a b=root S.ab a∨hi S a b=root S.ab b:=zh8 _ _
  rcases this with h | h <;> rw [h] <;> assumption
 have lk:=Z.ul _ _ uk
 refine XAt.step<|XS.expr<|aW<|hF H .here zbq zbu trivial<|cL zaj (.ref H.changes.choose_spec.1) ⟨rfl,aj<|cm<|aj<|dc<|aj<|ak (.there (.there (.there (.there .here))))<|aj<|cB (.builtin "len") (aj<|cC<|hF H .here za5 za6 trivial<|ak (.there (.there (.there (.there .here))))<|H.usIt uk λ vk hvk=>aq<|cW hvk.rd (sz (by rw [ah];exact nT (by assumption) (nB rfl))) ?_)⟩
 refine aj<|ak (.there (.there (.there (.there (.there .here)))))<|aj<|cC<|hF H .here za5 za6 trivial<|ak (.there (.there (.there (.there (.there .here)))))<|H.usIt ug λ vg hvg=>aq ⟨szr rfl,aq<|H.apC hc (.edge hvg (k:=lo S a b) (m:=((uu S (lo S a b)).map VN).length) (g:=hi S a b)) λ dG H1 F1 Y=>⟨rfl,?_⟩⟩
 rw [ah]at H1
 refine XAt.ret<|WAt.super rfl (zjn) .here H1.obj λ R'=>aj<|ak (.there .here)<|aj<|ak (.there (.there .here))<|aj<|ak (.there (.there (.there .here)))<|aq ?_
 exact zhM H1 (Z.wC _) ha hb λ x dA H2 F2=>q x _ H2 (F1.trans F2)
end
noncomputable def kget:List (Nd × Nat)->Nd->Option Nat
 | [],_=>none
 | (a,v) :: r,k=>if a=k then some v else kget r k
theorem zdL {k:Nd}:∀ {kn:List (Nd × Nat)},aget (knV kn) (ndK k)=(kget kn k).map VN
 | []=>rfl
 | (a,v) :: r=>by
  show aget ((ndK a,VN v) :: knV r) (ndK k)=_
  unfold aget kget
  by_cases e:a=k
  ·rw [aB e,aB (by rw [e])];rfl
  ·rw [aw e,aw λ q=>e (zeI q)];exact zdL
theorem zjE {k:Nd}{n:Nat}:∀ {kn:List (Nd × Nat)},kget kn k=none->aput (knV kn) (ndK k) (VN n)=knV (kn ++ [(k,n)])
 | [],_=>rfl
 | (a,v) :: r,h=>by
  unfold kget at h
  show aput ((ndK a,VN v) :: knV r) (ndK k) (VN n)=(ndK a,VN v) :: knV (r ++ [(k,n)])
  unfold aput
  by_cases e:a=k
  ·rw [aB e]at h;cases h
  ·rw [aw e]at h;rw [aw λ q=>e (zeI q),zjE h]
theorem zjC {k:Nd}{n:Nat}:∀ {kn:List (Nd × Nat)},kget kn k=none->adel (knV (kn ++ [(k,n)])) (ndK k)=knV kn
 | [],_=>by show adel [(ndK k,VN n)] (ndK k)=[];unfold adel;rw [aB rfl]
 | (a,v) :: r,h=>by
  unfold kget at h
  show adel ((ndK a,VN v) :: knV (r ++ [(k,n)])) (ndK k)=(ndK a,VN v) :: knV r
  unfold adel
  by_cases e:a=k
  ·rw [aB e]at h;cases h
  ·rw [aw e]at h;rw [aw λ q=>e (zeI q),zjC h]
theorem zcB {k:Nd}{n:Nat}:∀ {kn:List (Nd × Nat)},kget kn k=some n->(k,n)∈kn
 | (a,v) :: r,h=>by
  unfold kget at h
  by_cases e:a=k
  ·rw [aB e]at h;cases h;rw [e];exact .head _
  ·rw [aw e]at h;exact .tail _ (zcB h)
noncomputable def likeS:List Str:=["like"]
noncomputable def nd (S:St)(n:Nat):Nd:=nkey S.ab (S.nodes.getD n ("",[]))
noncomputable def hlook (S:St)(n:Nat):St:=match kget S.known (nd S n)with
 | some m=>if root S.ab m=root S.ab n then S else ljoin S m n likeS
 | none=>S.wK (S.known ++ [(nd S n,n)])
noncomputable def look1 (S:St)(n:Nat):St:=if n=S.made then (S.wC (S.changes ++ [.made n])).wM (n+1)else S
noncomputable def look2 (S:St)(n:Nat):St:=if kget S.known (nd S n)=none then S.wC (S.changes ++ [.known (nd S n)])else S
noncomputable def llook (S:St)(n:Nat):St:=hlook (look2 (look1 S n) n) n
theorem zfE {S:St}{n:Nat}(h:n < S.nodes.length):∃ d,S.nodes[n]? = some d/\nd S n=nkey S.ab d:=by
 refine⟨S.nodes[n],al h,?_⟩
 unfold nd;simp [h]
theorem Wf.wM {S:St}(Z:Wf S)(m:Nat):Wf (S.wM m):=⟨Z.n30,Z.ab,Z.lots,Z.le,Z.us,Z.ul,Z.ll,Z.mg,Z.edges,Z.forest,Z.known,Z.wait,Z.ul1000,Z.kids,Z.kn⟩
theorem HS.setM {μ:Mem}{w:Nat}{S:St}(H:HS μ w S){m:Nat}:HS (μ.set (.h 0) (.inst zaa (heapF w m))) w (S.wM m):=by
 have k:∀ n,1<=n->(μ.set (.h 0) (.inst zaa (heapF w m))) (.h n)=μ (.h n):=λ n h=>hne (by exact bu (by assumption))
 have U:=H.U
 obtain⟨b1,b2,⟨x,b3,b4,b5⟩,⟨y,b6,b7⟩,⟨z,b8,b9⟩⟩:=H.B
 exact⟨⟨aN,⟨(k _ (by decide)).trans b1,(k _ (by decide)).trans b2,⟨x,(k _ (by decide)).trans b3,b4,b5⟩,⟨y,(k _ (by decide)).trans b6,b7⟩,⟨z,(k _ (by decide)).trans b8,b9⟩⟩,
  ⟨(k _ (by decide)).trans U.hu,(k _ (by decide)).trans U.hab,(k _ (by decide)).trans U.hlots,λ i x h=>lne.trans (U.hlot i x h),(k _ (by decide)).trans U.hmg⟩⟩,
  (k _ (by decide)).trans H.edges,(k _ (by decide)).trans H.forest,(k _ (by decide)).trans H.known,H.us' (by decide),wne.trans H.wait,H.ch' (by decide),H.marks.keep (k _ (by decide)) wne,λ j h=>wne.trans (H.fresh j h)⟩
section
variable {X:Ctx}{l:Nat}{μ:Mem}
variable {R:Nat->Option Obj}{env:Env}{ρ:Loc}{w:Nat}{S:St}
theorem W.node {x y:Str}{p1 p2 p3 p4:Pos}{n:Nat}{Q:V->Mem->Prop}(hs:Lk ρ x (.ref (.h 0)))(hy:Lk ρ y (VN n))(H:HS μ w S)(Z:Wf S)(hn:n < S.nodes.length)(q:Q (kT.key (ndK (nd S n))) μ)
  (hd:(x == ("__debug__":Str))=false:=by decide) (hc:(x == ("__classdict__":Str))=false:=by decide)
  (hd':(y == ("__debug__":Str))=false:=by decide) (hc':(y == ("__classdict__":Str))=false:=by decide)
  {pl:Sem Bool} (he:(eval (((Expr.Name x p1).Attribute "node" p2).Call [.Name y p4] [] p3) env=do
     let ov <- eval (.Name x p1) env
     standAt p2.atName
     let x <- PySem.holding [ov] (getMethod ov "node" pl)
     match x with
      | (f,first)=>PySem.callWith p3 f first (backTo p3 (starEach [.Name y p4] env)) (backToKw p3 (keywordEach [] env))):=by rfl) :
  W X (l+3) R env ρ μ (.Call (.Attribute (.Name x p1) "node" p2) [.Name y p4] [] p3) Q:=by
 refine E12 (zfE hn) λ d h1 h2=>?_
 rw [zhL,h2]at q
 exact aW (ak hs (bc H.obj (f:=zbz) (by kernel_rfl) (zab (by decide)) ⟨by kernel_rfl,aj<|ak hy (aq (aU (zhj H Z h1 q))) hd' hc'⟩) hd hc) rfl he
theorem zhv {n:Nat}{Q:V->Mem->Prop}(H:HS μ w S)(Z:Wf S)(hc:S.changes.length<=50000)(hn:n < S.nodes.length)
  (q:∀ x dl,HS dl w (hlook S n)->FrH μ dl->(kget S.known (nd S n)=none->FrL μ dl)->Q x dl):Cs X (l+5) (.ref zaY) [.ref (.h 0),VN n] μ Q:=by
 have zk:=Z.known
 refine zd7 λ R L=>?_
 refine db (.inl rfl)<|aW<|hF H .here ze4 zeW trivial<|GM.dict zjF H.known .t ⟨rfl,aj<|W.node .here (.there .here) H Z hn<|aj<|ak (.there .here)<|aq<|CV.setdefault (kd:=kT) H.known (sz (by unfold knV;rw [ah];exact nT (by assumption) (nB rfl))) ?_ ?_⟩
 ·intro z hz
  rw [zdL]at hz
  refine E12 (Option.map_eq_some_iff.mp hz) λ m hm q9=>?_;subst q9
  have hml:=Z.kn _ (zcB hm)
  refine⟨_,.there (by decide) (.there (by decide) .new),?_⟩
  refine cZ<|cr<|W.find .here H Z.b<|ak (.there (.there .here)) ⟨m,rfl,rfl,hml,W.find .here H Z.b<|ak (.there .here) ⟨n,rfl,rfl,hn,P2.neN (bz ⟨λ hc'=>?_,λ hc'=>di ?_⟩)⟩⟩
  ·have hne:root S.ab m≠root S.ab n:=by simpa using hc'
   refine cO<|aW<|ak .here<|bc H.obj (f:=zba) (by kernel_rfl) (zab (by decide)) ⟨by kernel_rfl,aj<|ak (.there (.there .here))<|aj<|ak (.there .here)<|aj<|cm<|aj<|dc<|aq ⟨szr rfl,aq<|aU<|zee (r:=likeS) H Z hc hml hn λ x dG H1 F1=>di<|cg<|q _ _ ?_ F1 λ e=>by rw [hm]at e;cases e⟩⟩
   have:hlook S n=ljoin S m n likeS:=by unfold hlook;rw [hm];exact aw hne
   rw [this];exact H1
  ·have he:root S.ab m=root S.ab n:=by simpa using hc'
   have:hlook S n=S:=by unfold hlook;rw [hm];exact aB he
   exact cg<|q _ _ (by rw [this];exact H) FrH.rfl λ Y=>FrL.rfl
 ·intro hz
  rw [zdL]at hz
  have hm:kget S.known (nd S n)=none:=by simpa using hz
  have H1:=H.setKnown (zjE (n:=n) hm)
  refine⟨_,.there (by decide) (.there (by decide) .new),?_⟩
  have:hlook S n=S.wK (S.known ++ [(nd S n,n)]):=by unfold hlook;rw [hm]
  refine cZ<|cr<|W.find .here H1 ⟨Z.n30,Z.ab,Z.le⟩<|ak (.there (.there .here)) ⟨n,rfl,rfl,hn,W.find .here H1 ⟨Z.n30,Z.ab,Z.le⟩<|ak (.there .here) ⟨n,rfl,rfl,hn,P2.neN (bz ⟨λ hc'=>absurd hc' (by first | exact aI rfl | simp),λ hc'=>di<|cg<|q _ _ (by rw [this];exact H1) (FrH.rfl.set rfl) λ Y j Y h Y=>av h⟩)⟩⟩
theorem zi7:SuperOk X zaf zdu zeJ zaa zaa zaY "look_at" zae.scope where
 fd:=⟨_,_,zae,_,_,by unfold Ctx.K;rfl,rfl,rfl⟩
 code:=⟨_,_,_,_,_,_,by unfold Ctx.K;rfl,rfl,by unfold Ctx.prog;rfl⟩
 cell:=⟨_,_,_,by unfold Ctx.K;rfl⟩
 cls:=⟨_,by unfold Ctx.K;rfl⟩
 sub:=by kernel_rfl
 super:=by kernel_rfl
 at_:=by decide
 ks:=rfl
 kc:=rfl
 ka:=rfl
 kind:=rfl
 top:=by kernel_rfl
 third:=by kernel_rfl
 meth:=by kernel_rfl
 fn:=by kernel_rfl
 fn2:=by kernel_rfl
theorem zes {n:Nat}{Q:V->Mem->Prop}(H:HS μ w S)(Z:Wf S)(hc:S.changes.length<=49000)(hn:n < S.nodes.length)
  (q:∀ x dl,HS dl w (llook S n)->FrH μ dl->(kget S.known (nd S n)=none->FrL μ dl)->Q x dl):Cs X (l+6) (.ref zaf) [.ref (.h 0),VN n] μ Q:=by
 refine Cs.plainAt (fd:=zae) (body:=zap) (ps:=["self","n"]) (by kernel_rfl) rfl (by kernel_rfl) (bd2 λ _ _=>rfl) (by decide) rfl λ R L=>?_
 have e1:nd (look1 S n) n=nd S n:=by unfold look1;split <;> rfl
 have e1':(look1 S n).known=S.known:=by unfold look1;split <;> rfl
 have next:∀ dG,HS dG w (look1 S n)->FrH μ dG->FrL μ dG->XAt X (l+5) R (callEnv zae L zaf) [("self",.ref (.h 0)),("n",VN n)] dG zap (execs (zap.tail) (callEnv zae L zaf)) λ fl Y dl=>match fl with | .ret x=>Q x dl | .next=>Q .none dl:=by
  intro dG H1 F1 L1
  have Z1:Wf (look1 S n):=by unfold look1;split;exact(Z.wC _).wM _;exact Z
  have hc1:(look1 S n).changes.length<=49001:=by
   unfold look1;split
   ·show (S.changes ++ [_]).length<=_;simp;assumption
   ·exact aQ (by assumption)
  have hn1:n < (look1 S n).nodes.length:=by unfold look1;split;exact hn;exact hn
  refine XAt.step<|XS.assignName (.inl rfl)<|W.node .here (.there .here) H1 Z1 hn1 ⟨_,.there (by decide) (.there (by decide) .new),rfl,?_⟩
  have last:∀ dA,HS dA w (look2 (look1 S n) n)->FrH μ dA->FrL μ dA->XAt X (l+5) R (callEnv zae L zaf) [("self",.ref (.h 0)),("n",VN n),("node",kT.key (ndK (nd (look1 S n) n)))] dA zap (execs (zap.tail.tail.tail) (callEnv zae L zaf)) λ fl Y dl=>match fl with | .ret x=>Q x dl | .next=>Q .none dl:=by
   intro dA H2 F2 L2
   have Z2:Wf (look2 (look1 S n) n):=by unfold look2;split;exact Z1.wC _;exact Z1
   have hc2:(look2 (look1 S n) n).changes.length<=50000:=by
    unfold look2;split
    ·show ((look1 S n).changes ++ [_]).length<=_;simp;exact nT (by assumption) (nB rfl)
    ·exact nT (by assumption) (nB rfl)
   have hn2:n < (look2 (look1 S n) n).nodes.length:=by unfold look2;split;exact hn1;exact hn1
   refine XAt.ex<|WAt.super rfl (zi7) .here H2.obj λ R'=>aj<|ak (.there .here)<|aq ?_
   exact zhv H2 Z2 hc2 hn2 λ x dD H3 F3 L3=>XAt.any<|cg<|q _ _ H3 (F2.trans F3) λ e=>L2.trans (L3 (by
    have e2:nd (look2 (look1 S n) n) n=nd S n:=by rw [<- e1];unfold look2;split <;> rfl
    have e3:(look2 (look1 S n) n).known=S.known:=by rw [<- e1'];unfold look2;split <;> rfl
    rw [e2,e3];exact e))
  refine XAt.step<|XS.if_<|cr<|ak (.there (.there .here))<|hF H1 .here ze4 zeW trivial<|P2.notinD (kd:=kT) H1.known (bz ⟨λ hc'=>?_,λ hc'=>cg ⟨rfl,last _ ?_ F1 L1⟩⟩)
  ·have hm:kget (look1 S n).known (nd (look1 S n) n)=none:=by rw [zdL]at hc';simpa using hc'
   refine cO<|aW<|hF H1 .here zbq zbu trivial<|cL zaj (.ref H1.changes.choose_spec.1) ⟨rfl,aj<|cm<|aj<|dc<|aj<|ak (.there (.there .here))<|aq ⟨szr rfl,aq<|H1.apC (c:=.known (nd (look1 S n) n)) (by exact nT (by assumption) (nB rfl)) (by rw [zhL];exact .known) λ dA H2 F2 L2=>cg ⟨rfl,last _ ?_ (F1.trans F2) (L1.trans L2)⟩⟩⟩
   unfold look2;rw [aB hm];exact H2
  ·have hm:¬ kget (look1 S n).known (nd (look1 S n) n)=none:=by intro e;rw [zdL,e]at hc';cases hc'
   unfold look2;rw [aw hm];exact H1
 refine XAt.step<|XS.if_<|cr<|ak (.there .here)<|hF H .here zkk zkm trivial<|P2.eqN (bz ⟨λ hc'=>?_,λ hc'=>cg ⟨rfl,next _ ?_ FrH.rfl FrL.rfl⟩⟩)
 ·have hm:n=S.made:=by simpa using hc'
  refine cO<|aW<|hF H .here zbq zbu trivial<|cL zaj (.ref H.changes.choose_spec.1) ⟨rfl,aj<|cm<|aj<|dc<|aj<|ak (.there .here)<|aq ⟨szr rfl,aq<|H.apC (by exact nT (by assumption) (nB rfl)) .made λ dG H1 F1 L1=>?_⟩⟩
  refine cU<|cF<|ak (.there .here)<|cT (n:=1)<|P2.addN<|ak .here<|cN H1.obj (.there (by decide)<|.there (by decide)<|.there (by decide)<|.there (by decide)<|.there (by decide)<|.there (by decide)<|.there (by decide)<|.there (by decide)<|.there (by decide) .here) (by kernel_rfl) (by first | exact aI rfl | simp)<|cg ⟨rfl,next _ ?_ (F1.set rfl) (L1.trans λ j h Y Y=>av h)⟩
  unfold look1;rw [aB hm];exact H1.setM
 ·have hm:¬ n=S.made:=by simpa using hc'
  unfold look1;rw [aw hm];exact H
end
inductive Run:Nat->St->St->Prop
 | done {S:St}:S.wait=[]->Run 0 S S
 | step {k n:Nat} {S S':St} {ws:List Nat}:S.wait=ws ++ [n]->Wf S->S.changes.length<=49000->n < S.nodes.length->Run k (llook (S.wW ws) n) S'->Run (k+1) S S'
theorem HS.popW {μ:Mem}{w:Nat}{S:St}(H:HS μ w S){ws:List Nat}{n:Nat}(e:S.wait=ws ++ [n])(hz:ws.length<=100000){X:Ctx}{l:Nat}{R:Nat->Option Obj}{env:Env}{ρ:Loc}{Q:V->Mem->Prop}(q:∀ dl,HS dl w (S.wW ws)->FrH μ dl->Q (VN n) dl):CV X l R env ρ μ (.builtin "list.pop") [.ref (.w w)] Q :=
 CV.pop (xs:=ws.map VN) (x:=VN n) (by rw [H.wait,e,ax];rfl) (sz' (by rw [ah];exact nT (by assumption) (nB rfl))) (q _ (H.setWait rfl) (FrH.rfl.set rfl))
theorem Wf.wW {S:St}(Z:Wf S){ws:List Nat}(h:ws.length<=5000):Wf (S.wW ws):=⟨Z.n30,Z.ab,Z.lots,Z.le,Z.us,Z.ul,Z.ll,Z.mg,Z.edges,Z.forest,Z.known,h,Z.ul1000,Z.kids,Z.kn⟩
theorem HS.push {μ:Mem}{w:Nat}{S:St}(H:HS μ w S)(hm:S.mark = .no){m:Nat}:HS ((μ.set (.w (w+1)) (.list [])).set (.h 15) (.list [.tup [VN m,.ref (.w (w+1))]])) w (S.wMk (.on m)):=by
 have kh:∀ n,n≠15->((μ.set (.w (w+1)) (.list [])).set (.h 15) (.list [.tup [VN m,.ref (.w (w+1))]])) (.h n)=μ (.h n):=λ n h=>(hne h).trans (av (by first | exact aI rfl | simp))
 have ku:∀ c,((μ.set (.w (w+1)) (.list [])).set (.h 15) (.list [.tup [VN m,.ref (.w (w+1))]])) (.usr c)=μ (.usr c):=λ c=>une.trans (av (by first | exact aI rfl | simp))
 have kw:∀ n,n≠w+1->((μ.set (.w (w+1)) (.list [])).set (.h 15) (.list [.tup [VN m,.ref (.w (w+1))]])) (.w n)=μ (.w n):=λ n h=>wne.trans (av (by simpa using h))
 refine E13 (H.us) λ es e1 e2 e3=>?_
 refine E12 (H.changes) λ cs c1 c2=>?_
 exact⟨H.hb.keep (λ n h=>kh n (by exact aF (nT ‹_› (by decide)))) (λ c=>lne.trans (av (by first | exact aI rfl | simp))),(kh _ (by decide)).trans H.edges,(kh _ (by decide)).trans H.forest,(kh _ (by decide)).trans H.known,⟨es,(kh _ (by decide)).trans e1,e2.keep ku,e3⟩,(kw _ (by simp_all)).trans H.wait,⟨cs,(kh _ (by decide)).trans c1,c2.keep ku⟩,⟨aN,wne.trans aN⟩,λ j h=>(kw _ (by exact bu (by assumption))).trans (H.fresh j h)⟩
theorem HS.unmark {μ:Mem}{w:Nat}{S:St}(H:HS μ w S){m:Nat}(hm:S.mark = .on m):HS (μ.set (.h 15) (.list [])) w (S.wMk .off):=by
 have M:Mk μ w (.on m):=hm▸H.marks
 exact⟨H.hb' (by decide),(hne (by decide)).trans H.edges,(hne (by decide)).trans H.forest,(hne (by decide)).trans H.known,H.us' (by decide),wne.trans H.wait,H.ch' (by decide),⟨aN,wne.trans M.2⟩,λ j h=>wne.trans (H.fresh j h)⟩
theorem HS.popEnd {μ:Mem}{w:Nat}{S:St}(H:HS μ w S)(hm:S.mark = .off):HS (μ.set (.h 0) (.inst zaa (heapF (w+1) S.made))) (w+1) ((S.wW []).wMk .no):=by
 have M:Mk μ w .off:=hm▸H.marks
 have k:∀ n,1<=n->(μ.set (.h 0) (.inst zaa (heapF (w+1) S.made))) (.h n)=μ (.h n):=λ n h=>hne (by exact bu (by assumption))
 have U:=H.U
 obtain⟨b1,b2,⟨x,b3,b4,b5⟩,⟨y,b6,b7⟩,⟨z,b8,b9⟩⟩:=H.B
 exact⟨⟨aN,⟨(k _ (by decide)).trans b1,(k _ (by decide)).trans b2,⟨x,(k _ (by decide)).trans b3,b4,b5⟩,⟨y,(k _ (by decide)).trans b6,b7⟩,⟨z,(k _ (by decide)).trans b8,b9⟩⟩,
  ⟨(k _ (by decide)).trans U.hu,(k _ (by decide)).trans U.hab,(k _ (by decide)).trans U.hlots,λ i x h=>lne.trans (U.hlot i x h),(k _ (by decide)).trans U.hmg⟩⟩,
  (k _ (by decide)).trans H.edges,(k _ (by decide)).trans H.forest,(k _ (by decide)).trans H.known,H.us' (by decide),wne.trans M.2,H.ch' (by decide),⟨(k _ (by decide)).trans M.1,wne.trans (H.fresh _ (by exact an _))⟩,λ j h=>wne.trans (H.fresh j (by exact az (by assumption)))⟩
inductive IvT10n1 (S':St)(μ:Mem)(w:Nat)(n:Nat)(dm:Loc)(dl:Mem):Prop
 | mk (h1:dm=[(("self":Str),V.ref (.h 0))]) (S1:St) (h2:HS dl w S1) (h3:Run n S1 S') (h4:FrH μ dl):IvT10n1 S' μ w n dm dl
section
variable {X:Ctx}{l:Nat}{μ:Mem}
variable {R:Nat->Option Obj}{env:Env}{ρ:Loc}{w:Nat}{S S':St}
theorem ziq {Q:V->Mem->Prop}(H:HS μ w S)(hm:S.mark = .no)(hw:S.wait=[])(hc:S.changes.length<=49000)
  (q:∀ dl,HS dl w (S.wMk (.on S.changes.length))->FrH μ dl->Q .none dl):Cs X (l+1) (.ref zbe) [.ref (.h 0)] μ Q:=by
 have M:Mk μ w .no:=hm▸H.marks
 refine E12 (H.changes) λ cs c1 c2=>?_
 refine zeK λ R L=>cO<|aW<|hF H .here zfb zfk trivial<|cL zaj (.ref M.1) ⟨rfl,aj<|cm<|aj<|cB (.builtin "len") (aj<|hF H .here zbq zbu trivial<|aq<|cW (.ref c1) (sz (by rw [c2.length];exact nT (by assumption) (nB rfl))) ?_)⟩
 refine aj<|cB (.type "list") (aj<|hF H .here zbX zbO trivial<|aq<|CV.listL (.ref H.wait) (sz (by rw [hw];simp)) (.inr ⟨.w (w+1),M.2,aq ⟨szr rfl,aq<|cQ (xs:=[]) ?_ (szr rfl) ?_⟩⟩))
 ·exact(av (by first | exact aI rfl | simp)).trans M.1
 ·rw [hw,c2.length]
  exact cg (q _ (H.push hm) ((FrH.rfl.set rfl).set rfl))
set_option tactic.hygienic true in
theorem zcl {k:Nat}{Q:V->Mem->Prop}(H:HS μ w S)(r:Run k S S')(q:∀ dl,HS dl w S'->FrH μ dl->Q .none dl):Cs X (l+7) (.ref zas) [.ref (.h 0)] μ Q:=by
 refine ze9 λ R L=>?_
 refine bJ (XS.while_ (IvT10n1 S' μ w) ?_ k ⟨rfl,S,H,r,FrH.rfl⟩)
 rintro n dm dl ⟨rfl,S1,H1,r1,F1⟩
 refine cr<|cB (.builtin "len") (aj<|hF H1 .here zbX zbO trivial<|aq<|cW (.ref H1.wait) (sz ?_) ?_)
 ·induction r1 with
  | done e=>rw [e];simp
  | step e Z _ _ _=>have:=Z.wait;rw [ah];exact nT (by assumption) (nB rfl)
 refine cT (n:=0)<|P2.gtI (bz ⟨λ hc=>?_,λ hc=>?_⟩)
 ·cases r1 with
  | done e=>rw [e]at hc;simp at hc
  | step e Z hz hn r2 =>
   rename_i k n ws
   have hl:ws.length<=5000:=by have:=Z.wait;rw [e]at this;simp at this;exact aQ (by assumption)
   refine cO<|aW<|ak .here<|bc H1.obj (f:=zaf) (by kernel_rfl) (zab (by decide)) ⟨by kernel_rfl,aj<|aW (hF H1 .here zbX zbO trivial<|cL zhT (.ref H1.wait) ⟨rfl,aq<|H1.popW e (by exact nT (by assumption) (nB rfl)) λ dA H2 F2=>aq<|aU<|zes H2 (Z.wW hl) hz hn λ x dD H3 F3 Y=>cg ⟨λ Y=>⟨k,by exact an _,rfl,_,H3,r2,(F1.trans F2).trans F3⟩,λ x e=>dead e⟩⟩) rfl⟩
 ·induction r1 with
  | done e=>exact⟨rfl,cg (q _ H1 F1)⟩
  | step e Z _ _ _=>rw [e]at hc;simp at hc
end
theorem FrH.usr {μ dl:Mem}(F:FrH μ dl)(c:Nat):dl (.usr c)=μ (.usr c):=F _ _root_.rfl
inductive UK (S:St)(k:Nd)(S':St):Prop
 | mk (kn:List (Nd × Nat)) (n:Nat) (h1:S.known=kn ++ [(k,n)]) (h2:kget kn k=none) (h3:kn.length<=10000) (e:S'=S.wK kn)
inductive UE (S:St)(es:List (Nat × Nat × List Str))(k m g:Nat)(us:List Nat)(S':St):Prop
 | mk (fs:List Nat) (f:Nat) (mg:List (Nat × Nat)) (lk:List Nat) (a1:S.forest=fs ++ [f]) (a2:fs.length<=10000) (a3:S.mg=mg ++ [(k,g)]) (a4:mg.length<=100) (a5:S.ab.length<=30) (a6:S.lots.length=S.ab.length) (a7:k < S.ab.length) (a8:g < S.ab.length) (a9:S.U k=some lk) (aa:lk.length<=1000) (ab:S.U g=none) (ac:S.ul<=900) (ad:m<=1000)
   (ae:(S.lots.getD g []).length<=(S.lots.getD k []).length) (af:∀ (i:Nat) (x:List Nat),S.lots[i]? = some x->x.length<=1000)
   (e:S'=((((S.wE es).wF fs).wA (S.ab.set g g) (S.lots.set k ((S.lots.getD k []).take ((S.lots.getD k []).length - (S.lots.getD g []).length))) mg).wU (upd (upd S.U k (some (lk.take m))) g (some us)) (S.ul+1)))
inductive UD (S:St)(k m g:Nat)(us:List Nat)(S':St):Prop
 | mk (es:List (Nat × Nat × List Str)) (e:Nat × Nat × List Str) (h1:S.edges=es ++ [e]) (h2:es.length<=10000) (h3:k=g->S'=S.wE es) (h4:k≠g->UE S es k m g us S')
noncomputable def Und (S:St)(c:Ch)(S':St):Prop:=Ch.rec (motive:=λ _=>Prop) (λ _=>False) (λ k=>UK S k S') (λ k m g us=>UD S k m g us S') c
inductive Back:Nat->St->St->Prop
 | done {S:St}:Back 0 S S
 | step {n:Nat} {S S1 S':St} {cs:List Ch} {c:Ch}:S.changes=cs ++ [c]->cs.length<=60000->Und (S.wC cs) c S1->Back n S1 S'->Back (n+1) S S'
theorem Und.same {S S1:St}:∀ {c:Ch},Und S c S1->S1.changes=S.changes/\S1.mark=S.mark
 | .made _,h=>False.elim h
 | .known _,h=>UK.rec (motive:=λ _=>_) (λ _ _ _ _ _ e=>by rw [e];exact⟨rfl,rfl⟩) h
 | .edge k m g us,h=>UD.rec (motive:=λ _=>_) (λ _ _ _ _ h3 h4=>by
   by_cases q:k=g
   ·rw [h3 q];exact⟨rfl,rfl⟩
   ·refine UE.rec (motive:=λ _=>_) (λ _ _ _ _ _ _ _ _ _ _ _ _ _ _ _ _ _ _ _ e=>?_) (h4 q)
    rw [e];exact⟨rfl,rfl⟩) h
theorem Back.len {n:Nat}{S S':St}(h:Back n S S'):S.changes.length=S'.changes.length+n:=by
 induction h with
 | done=>rfl
 | step e _ u _ ih=>rw [u.same.1]at ih;rw [e,aC];exact cw (· + 1) ih
theorem zhB (l:List Nat)(m:Nat):sliceV (l.map VN) none (some (m:Int))=(l.take m).map VN:=by
 unfold sliceV kms_lo kms_hi
 dsimp only
 rw [aw (by simp_all),List.drop_zero,Int.toNat_natCast,ah,<- List.map_take]
 rw [Nat.sub_zero]
 rcases Nat.le_total m l.length with h | h
 ·rw [Nat.min_eq_left h]
 ·rw [Nat.min_eq_right h,aV,List.take_of_length_le h]
theorem zdM {k:Nd}{n:Nat}:∀ {kn:List (Nd × Nat)},kget kn k=none->kget (kn ++ [(k,n)]) k=some n
 | [],_=>by show kget [(k,n)] k=_;unfold kget;rw [aB rfl]
 | (a,v) :: r,h=>by
  unfold kget at h
  show kget ((a,v) :: (r ++ [(k,n)])) k=_
  unfold kget
  by_cases e:a=k
  ·rw [aB e]at h;cases h
  ·rw [aw e]at h ⊢;exact zdM h
section
variable {X:Ctx}{l:Nat}{μ:Mem}{R:Nat->Option Obj}{env:Env}{ρ:Loc}{w:Nat}{S:St}(H:HS μ w S){Q:V->Mem->Prop}
include H
theorem HS.popE {es:List (Nat × Nat × List Str)}{e:Nat × Nat × List Str}(h:S.edges=es ++ [e])(hz:es.length<=10000)(q:∀ dl,HS dl w (S.wE es)->FrH μ dl->Q (edgeV e) dl):CV X l R env ρ μ (.builtin "list.pop") [.ref (.h 10)] Q :=
 CV.pop (xs:=es.map edgeV) (x:=edgeV e) (by rw [H.edges,h,ax];rfl) (sz' (by rw [ah];exact nT (by assumption) (nB rfl))) (q _ (H.setEdges rfl) (FrH.rfl.set rfl))
theorem HS.popF {es:List Nat}{e:Nat}(h:S.forest=es ++ [e])(hz:es.length<=10000)(q:∀ dl,HS dl w (S.wF es)->FrH μ dl->Q (VN e) dl):CV X l R env ρ μ (.builtin "list.pop") [.ref (.h 11)] Q :=
 CV.pop (xs:=es.map VN) (x:=VN e) (by rw [H.forest,h,ax];rfl) (sz' (by rw [ah];exact nT (by assumption) (nB rfl))) (q _ (H.setForest rfl) (FrH.rfl.set rfl))
theorem HS.popC {cs:List Ch}{c:Ch}(h:S.changes=cs ++ [c])(hz:cs.length<=60000)(q:∀ v dl,ChV dl c v->HS dl w (S.wC cs)->FrH μ dl->Q v dl):CV X l R env ρ μ (.builtin "list.pop") [.ref (.h 14)] Q:=by
 refine E12 (H.changes) λ vs c1 c2=>?_
 rw [h]at c2
 refine E23 (c2.last) λ vs' v q9 h1 h2=>?_;subst q9
 exact CV.pop c1 (sz' (by rw [h1.length];exact nT (by assumption) (nB rfl))) (q v _ (by induction h2 with
  | made=>exact .made
  | known=>exact .known
  | edge h'=>exact .edge (h'.keep λ Y=>une)) (H.setCh h1) (FrH.rfl.set rfl))
end
section
variable {X:Ctx}{l:Nat}{μ:Mem}
variable {R:Nat->Option Obj}{env:Env}{ρ:Loc}{w:Nat}{S S':St}
theorem zi1 {mg:List α}{x:α}{f:α->β}:(((List.map f (mg ++ [x])).length:Int) - (1:Nat))=(mg.length:Nat):=by
 rw [ah,aC];exact Int.add_sub_cancel (mg.length:Int) 1
theorem zj7 {c:Bool}{a b:Nat}(h:a<=b):(if c=true then a else a+1)<=b+1:=by
 split
 ·exact aQ h
 ·exact br h
theorem UE.hs {μ:Mem}{es:List (Nat × Nat × List Str)}{fs lk us:List Nat}{mg:List (Nat × Nat)}{k m g:Nat}{S:St}(d:S.U k=some lk)(d2:S.U g=none)(d3:k≠g){ab:List Nat}{lots:List (List Nat)}
  (H:HS μ w ((((((S.wE es).wF fs).wA ab lots mg).wU (upd S.U k (some (lk.take m))) (if (S.U k).isSome then S.ul else S.ul+1))).wU (upd (upd S.U k (some (lk.take m))) g (some us)) (if (upd S.U k (some (lk.take m)) g).isSome then (if (S.U k).isSome then S.ul else S.ul+1)else (if (S.U k).isSome then S.ul else S.ul+1)+1))):HS μ w ((((S.wE es).wF fs).wA ab lots mg).wU (upd (upd S.U k (some (lk.take m))) g (some us)) (S.ul+1)):=by
 have e2:(upd S.U k (some (lk.take m)) g).isSome=false:=by unfold upd;rw [aw λ e=>d3 e.symm,d2];rfl
 rw [e2,d]at H
 exact H
theorem zgC {k m g:Nat}{us:List Nat}{u:V}{Q:V->Mem->Prop}(H:HS μ w S)(hu:UV μ u us)(U:UD S k m g us S')(q:∀ dl,HS dl w S'->FrH μ dl->Q .none dl):Cs X (l+2) (.ref zaI) [.ref (.h 0),.tup [.str "edge",VN k,VN m,VN g,u]] μ Q:=by
 obtain⟨es,e,h,hz,he,hn⟩:=U
 refine zdN λ R L=>?_
 refine bJ<|cP<|ak (.there .here)<|da<|dj rfl<|bI<|ba (.inl rfl) (.there (by decide)<|.there (by decide) .new)<|bI<|ba (.inl rfl) (.there (by decide)<|.there (by decide)<|.there (by decide) .new)<|bI<|ba (.inl rfl) (.there (by decide)<|.there (by decide)<|.there (by decide)<|.there (by decide) .new) <|
  bI<|ba (.inl rfl) (.there (by decide)<|.there (by decide)<|.there (by decide)<|.there (by decide)<|.there (by decide) .new)<|bI<|ba (.inl rfl) (.there (by decide)<|.there (by decide)<|.there (by decide)<|.there (by decide)<|.there (by decide)<|.there (by decide) .new)<|cX ⟨rfl,?_⟩
 refine XB.loc7 λ ρ ls Y Y lk lm lg lu=>?_
 refine cO<|aW (hF H ls zfi ze5 trivial<|cL zhT (.ref H.edges) ⟨rfl,aq<|H.popE h hz λ dG H1 F1=>?_⟩) rfl
 refine cZ<|cr<|ak lk<|ak lg<|P2.neN (bz ⟨λ hc=>?_,λ hc=>di<|cg (q _ (bo (he (Decidable.not_not.mp (cj hc)))▸H1) F1)⟩)
 have hne:k≠g:=cv hc
 obtain⟨fs,f,mg,lk',c1,c2,c3,c4,c5,c6,c7,c8,c9,ca,cb,cc,cd,ce,cf,e⟩:=hn hne
 refine cO<|aW (hF H1 ls zff zeN trivial<|cL zhT (.ref H1.forest) ⟨rfl,aq<|H1.popF c1 c2 λ dA H2 F2=>?_⟩) rfl
 have U2:UH dA S.ab S.lots (mg ++ [(k,g)]):=c3▸H2.U
 refine cO<|aW<|hF H2 ls za9 za7 trivial<|bc H2.U.hu (f:=zbc) (by kernel_rfl) (by decide) ⟨by kernel_rfl,aj<|cF<|cB (.builtin "len") (aj<|W.attr<|hF H2 ls za9 za7 trivial<|GA.field H2.U.hu (.there (.there .here)) (by kernel_rfl) trivial<|aq<|cW (.ref U2.hmg) (sz (by rw [ah,aC];exact nT (br ‹_›) (nB rfl))) ?_)⟩
 refine cT (n:=1)<|P2.subI ?_
 refine bo zi1 ▸ ?_
 refine aq<|aU<|zif U2 (c6▸c7) (c6▸c8) c8 (nT c5 (nB rfl)) c6 ce cf (nT c4 (nB rfl)) λ dD U3 fr=>?_
 have H3:=H2.setU U3 λ id a Y b c=>fr id a b c
 have F3:FrH dA dD:=λ j hj=>fr j (λ e=>by subst e;cases hj) (λ e=>by subst e;cases hj) (λ e=>by subst e;cases hj)
 refine XB.setI<|W.sliceL<|cC<|hF H3 ls za5 za6 trivial<|ak lk<|H3.usIt c9 λ vk hvk=>WP.nil<|WP.one<|ak lm ⟨m,rfl,_,hvk.rd,sz (by rw [ah];exact nT ca (nB rfl)),.inl ?_⟩
 refine bo (zhB lk' m) ▸ ?_
 refine hF H3 ls za5 za6 trivial<|ak lk<|H3.usSet .lst (nT cc (nB rfl)) λ dM H4 F4=>?_
 refine XB.setI<|ak lu<|hF H4 ls za5 za6 trivial<|ak lg<|H4.usSet (((hu.keep F1.usr).keep F2.usr).keep F3.usr |>.keep F4.usr) (nT (zj7 cc) (nB rfl)) λ dZ H5 F5=>di<|cg<|q _ (bo e▸UE.hs c9 cb hne H5) ((((F1.trans F2).trans F3).trans F4).trans F5)
inductive IvT11 (S':St)(m w:Nat)(μ:Mem)(n:Nat)(dm:Loc)(dl:Mem):Prop
 | mk (T:St) (H:HS dl w (T.wMk .off)) (B:Back n T S') (F:FrH μ dl) (h1:Lk dm "self" (.ref (.h 0))) (h2:Lk dm "many" (VN m)) (h3:Lk dm "waiting" (.ref (.w (w+1))))
theorem UD.off {k m g:Nat}{us:List Nat}(h:UD S k m g us S'):UD (S.wMk .off) k m g us (S'.wMk .off):=by
 obtain⟨es,e,h,hz,he,hn⟩:=h
 refine⟨es,e,h,hz,λ h=>cw (St.wMk · .off) (he h),λ h=>?_⟩
 obtain⟨fs,f,mg,lk',c1,c2,c3,c4,c5,c6,c7,c8,c9,ca,cb,cc,cd,ce,cf,e⟩:=hn h
 exact⟨fs,f,mg,lk',c1,c2,c3,c4,c5,c6,c7,c8,c9,ca,cb,cc,cd,ce,cf,cw (St.wMk · .off) e⟩
theorem Back.le {n:Nat}{T S':St}(B:Back n T S')(h:S'.changes.length<=60000):T.changes.length<=60001:=by
 induction B with
 | done=>exact aQ h
 | step e h2 _ _=>rw [e,aC];exact br h2
theorem Back.pos {n m:Nat}{T S':St}(B:Back n T S')(h:S'.changes.length=m)(hm:m < T.changes.length):∃ k S1 cs c,n=k+1/\T.changes=cs ++ [c]/\cs.length<=60000/\Und (T.wC cs) c S1/\Back k S1 S':=by
 induction B with
 | done=>exact absurd (h▸hm) (bj _)
 | step e h2 u b _=>exact⟨_,_,_,_,rfl,e,h2,u,b⟩
theorem Back.end {n m:Nat}{T S':St}(B:Back n T S')(h:S'.changes.length=m)(hm:¬ m < T.changes.length):T=S':=by
 induction B with
 | done=>rfl
 | step e h2 u b _=>exact absurd (au (by have:=b.len;rw [u.same.1]at this;rw [h]at this;exact this▸Nat.lt_succ_of_le (aS _ _)) (by rw [e,aC];exact an _)) hm
theorem zjm {kn:List (Nd × Nat)}{key:Nd}{n:Nat}(h:S.known=kn ++ [(key,n)])(hk:kget kn key=none)(hz:kn.length<=10000):(knV S.known).length<=10001/\aget (knV S.known) (ndK key)=some (VN n)/\adel (knV S.known) (ndK key)=knV kn:=by
 rw [h]
 exact⟨by unfold knV;rw [ah,aC];exact br hz,by rw [zdL,zdM hk];rfl,zjC hk⟩
theorem zg6 {n m:Nat}{Q:V->Mem->Prop}(H:HS μ w S)(hm:S.mark = .on m)(B:Back n S S')(hl:S'.changes.length=m)(hmz:m<=60000)(q:∀ dl,HS dl (w+1) ((S'.wMk .no).wW [])->FrH μ dl->Q .none dl):Cs X (l+3) (.ref za1) [.ref (.h 0)] μ Q:=by
 have M:Mk μ w (.on m):=hm▸H.marks
 refine zfs λ R L=>?_
 refine cZ<|cr<|cB (.builtin "len") (aj<|hF H .here zfb zfk trivial<|aq<|cW (.ref M.1) (szr rfl) ?_)
 refine cT (n:=0)<|P2.eqI<|bz ⟨λ hc=>absurd hc Bool.false_ne_true,λ Y=>di ?_⟩
 refine bJ<|cP<|aW (hF H .here zfb zfk trivial<|cL zhT (.ref M.1) ⟨rfl,aq<|CV.pop (xs:=[]) M.1 (sz' (nB rfl)) ?_⟩) rfl
 refine da<|dj rfl<|bI<|ba (.inl rfl) (.there (by decide) .new)<|bI<|ba (.inl rfl) (.there (by decide)<|.there (by decide) .new)<|cX ⟨rfl,?_⟩
 refine XB.loc3 λ ρ ls lm lw=>?_
 refine bJ (XS.while_ (IvT11 S' m w μ) ?_ n ⟨S,H.unmark hm,B,FrH.rfl.set rfl,ls,lm,lw⟩)
 rintro k dm dl ⟨T,HT,BT,FT,ls,lm,lw⟩
 refine E12 (HT.changes) λ vs v1 v2=>?_
 refine cr<|cB (.builtin "len") (aj<|hF HT ls zbq zbu trivial<|aq<|cW (.ref v1) (sz (v2.length▸nT (BT.le (hl▸hmz)) (nB rfl))) ?_)
 refine bo v2.length ▸ ?_
 refine ak lm<|P2.gtN<|bz ⟨λ hc=>?_,λ hc=>?_⟩
 ·refine E45 (BT.pos hl (cv hc)) λ k T1 cs c q9 e h u b=>?_;subst q9
  refine db (.inl rfl)<|aW (hF HT ls zbq zbu trivial<|cL zhT (.ref v1) ⟨rfl,aq<|HT.popC e h λ v dA hv H2 F2=>?_⟩) rfl
  obtain⟨dE,u1⟩:=Up.ex dm "change" v
  refine⟨dE,u1,?_⟩
  have lc:=u1.lk
  have fin:∀ dD,HS dD w (T1.wMk .off)->FrH dA dD->∃ j,j < k+1/\IvT11 S' m w μ j dE dD :=
   λ dD H3 F3=>⟨k,an _,T1,H3,b,(FT.trans F2).trans F3,u1.lk' ls (by decide),u1.lk' lm (by decide),u1.lk' lw (by decide)⟩
  have ls:=u1.lk' ls (by decide)
  clear u1
  induction hv with
  | made=>exact False.elim u
  | known =>
   obtain⟨kn,n,k1,k2,k3,rfl⟩:=u
   obtain⟨k4,k5,k6⟩:=zjm k1 k2 k3
   refine cZ<|cr<|cC<|ak lc<|cT (n:=0)<|P2.itemTN (i:=0) (by decide) rfl<|dc<|P2.eq (n:=0) (.str _ _) (by decide)<|bz ⟨λ hc=>absurd hc (by decide),λ Y=>?_⟩
   refine cZ<|cr<|cC<|ak lc<|cT (n:=0)<|P2.itemTN (i:=0) (by decide) rfl<|dc<|P2.eq (n:=0) (.str _ _) (by decide)<|bz ⟨λ Y=>?_,λ hc=>absurd hc (by decide)⟩
   refine bJ<|XS.delItem (kd:=kT)<|hF H2 ls ze4 zeW trivial<|cC<|ak lc<|cT (n:=1)<|P2.itemTN (i:=1) (by decide) rfl ⟨_,_,_,_,rfl,(zhL _).symm,H2.known,sz (nT k4 (nB rfl)),k5,rfl,di<|di<|cg ⟨λ Y=>fin _ (H2.setKnown k6) (FrH.rfl.set rfl),λ x e=>dead e⟩⟩
  | edge hu =>
   refine cZ<|cr<|cC<|ak lc<|cT (n:=0)<|P2.itemTN (i:=0) (by decide) rfl<|dc<|P2.eq (n:=0) (.str _ _) (by decide)<|bz ⟨λ hc=>absurd hc (by decide),λ Y=>?_⟩
   refine cZ<|cr<|cC<|ak lc<|cT (n:=0)<|P2.itemTN (i:=0) (by decide) rfl<|dc<|P2.eq (n:=0) (.str _ _) (by decide)<|bz ⟨λ hc=>absurd hc (by decide),λ Y=>?_⟩
   refine cO<|aW<|ak ls<|bc H2.obj (f:=zaI) (by kernel_rfl) (zab (by decide)) ⟨by kernel_rfl,aj<|ak lc<|aq<|aU<|zgC H2 hu u.off λ dD H3 F3=>di<|di<|cg ⟨λ Y=>fin _ H3 F3,λ x e=>dead e⟩⟩
 ·have HT:HS dl w (S'.wMk .off):=BT.end hl (cj hc)▸HT
  refine⟨rfl,cU<|ak lw<|ak ls<|cN HT.obj (.there (by decide)<|.there (by decide)<|.there (by decide)<|.there (by decide)<|.there (by decide)<|.there (by decide) .here) (by kernel_rfl) (by first | exact aI rfl | simp)<|cg<|q _ (HT.popEnd rfl) (FT.set rfl)⟩
end
theorem zh1 {ps:List (Nat × Nat)}{i:Nat}{z:V}{f:Nat × Nat->V}(h:(ps.map f)[i]? = some z):∃ p,ps[i]? = some p/\z=f p/\ps.drop i=p :: ps.drop (i+1):=by
 apply mapE h;intro p hp
 obtain⟨hi,e⟩:=List.getElem?_eq_some_iff.mp hp
 exact⟨p,hp,rfl,by rw [List.drop_eq_getElem_cons hi,e]⟩
noncomputable def pairV (p:Nat × Nat):V:=.tup [VN p.1,VN p.2]
noncomputable def trialS:List Str:=["told","trial"]
noncomputable def TRun:List (Nat × Nat)->St->St->Prop
 | [],S,S'=>∃ k,Run k S S'
 | (a,b) :: ps,S,S'=>Wf S/\S.changes.length<=49000/\a < S.nodes.length/\b < S.nodes.length/\TRun ps (ljoin S a b trialS) S'
theorem TRun.nil {k:Nat}{S S':St}(r:Run k S S'):TRun [] S S':=⟨k,r⟩
theorem TRun.cons {a b:Nat}{ps:List (Nat × Nat)}{S S':St}(h1:Wf S)(h2:S.changes.length<=49000)(h3:a < S.nodes.length)(h4:b < S.nodes.length)(h5:TRun ps (ljoin S a b trialS) S'):TRun ((a,b) :: ps) S S':=⟨h1,h2,h3,h4,h5⟩
noncomputable def TH (μ:Mem):Prop:=μ (.h 16)=some (.inst zbQ [("heap",.ref (.h 0))])
theorem TH.keep {μ dl:Mem}(h:TH μ)(F:FrH μ dl):TH dl:=(F (.h 16) rfl).trans h
noncomputable def flat (ps:List (Nat × Nat)):List Nat:=ps.flatMap λ p=>[p.1,p.2]
inductive IvT12n1 (S':St)(μ:Mem)(w:Nat)(ps:List (Nat × Nat))(i:Nat)(dm:Loc)(dl:Mem):Prop
 | mk (h1:Lk dm "self" (.ref (.h 16))) (T':St) (h2:HS dl w T') (h3:TRun (ps.drop i) T' S') (h4:FrH μ dl):IvT12n1 S' μ w ps i dm dl
noncomputable def IvT12n2 (μ:Mem)(ps:List (Nat × Nat))(i:Nat)(ys:List V)(dm:Loc)(dl:Mem):Prop:=∀ (C:Mem->List V->Prop),(C (μ) ((flat (ps.take i)).map VN))->C dl ys
theorem IvT12n2.mk {μ:Mem}{ps:List (Nat × Nat)}{i:Nat}{ys:List V}{dm:Loc}{dl:Mem}(h1:dl=μ)(h2:ys=(flat (ps.take i)).map VN):IvT12n2 μ ps i ys dm dl:=by
 subst h1 h2;exact λ C k=>k
noncomputable def IvT12n3 (dl:Mem)(i:Nat)(a:Nat)(b:Nat)(ps:List (Nat × Nat))(j:Nat)(ys':List V)(ec:Loc)(dR:Mem):Prop:=∀ (C:Mem->List V->Prop),(C (dl) ((flat (ps.take i) ++ [a,b].take j).map VN))->C dR ys'
theorem IvT12n3.mk {dl:Mem}{i:Nat}{a:Nat}{b:Nat}{ps:List (Nat × Nat)}{j:Nat}{ys':List V}{ec:Loc}{dR:Mem}(h1:dR=dl)(h2:ys'=(flat (ps.take i) ++ [a,b].take j).map VN):IvT12n3 dl i a b ps j ys' ec dR:=by
 subst h1 h2;exact λ C k=>k
noncomputable def IvT12n4 (dl:Mem)(v:V)(i:Nat)(dm:Loc)(dA:Mem):Prop:=∀ (C:Mem->Prop),(Lk dm "self" (.ref (.h 16))->Lk dm "pairs" v->C dl)->C dA
theorem IvT12n4.mk {dl:Mem}{v:V}{i:Nat}{dm:Loc}{dA:Mem}(h1:dA=dl)(h2:Lk dm "self" (.ref (.h 16)))(h3:Lk dm "pairs" v):IvT12n4 dl v i dm dA:=by
 subst h1;exact λ C k=>k h2 h3
section
variable {X:Ctx}{l:Nat}{μ:Mem}
variable {R:Nat->Option Obj}{env:Env}{ρ:Loc}{w:Nat}{S S':St}
theorem zhG {nodes:List Nd}{Q:V->Mem->Prop}(B:BH μ nodes)(hz:nodes.length<=30)(q:Q (VN nodes.length) μ):Cs X (l+1) (.ref zbB) [.ref (.h 1)] μ Q:=by
 refine zf9 λ R L=>bZ<|cB (.builtin "len") (aj<|dd .here B.obj .here (by kernel_rfl) trivial<|aq<|cW (.ref B.nds) (sz (by rw [ah];exact nT (by assumption) (nB rfl))) ?_)
 rw [ah];exact q
theorem zcS {Q:V->Mem->Prop}(H:HS μ w S)(hz:S.nodes.length<=30)(q:Q (VN S.nodes.length) μ):Cs X (l+2) (.ref zaQ) [.ref (.h 0)] μ Q :=
 zgw λ R L=>bZ<|aW (hF H .here zcF zcN trivial<|bc H.B.obj (f:=zbB) (by kernel_rfl) (by decide) ⟨by kernel_rfl,aq<|aU<|zhG H.B hz q⟩) rfl
theorem zhs {a b:Nat}{Q:V->Mem->Prop}(H:HS μ w S)(Z:Wb S)(ha:a < S.nodes.length)(hb:b < S.nodes.length)(q:Q (.bool (decide (root S.ab a=root S.ab b))) μ):Cs X (l+3) (.ref zaN) [.ref (.h 0),VN a,VN b] μ Q :=
 zdS λ R L=>bZ<|W.cmp<|W.find .here H Z<|ak (.there .here) ⟨a,rfl,rfl,ha,W.find .here H Z<|ak (.there (.there .here)) ⟨b,rfl,rfl,hb,P2.eqN q⟩⟩
theorem zcj {a b:Nat}{r:List Str}{Q:V->Mem->Prop}(H:HS μ w S)(Z:Wf S)(hc:S.changes.length<=50000)(ha:a < S.nodes.length)(hb:b < S.nodes.length)
  (q:∀ x dl,HS dl w (ljoin S a b r)->FrH μ dl->Q x dl):Cs X (l+5) (.ref zaH) [.ref (.h 0),VN a,VN b,rsV r] μ Q :=
 zfM λ R L=>bZ<|aW<|ak .here<|bc H.obj (f:=zba) (by kernel_rfl) (zab (by decide)) ⟨by kernel_rfl,aj<|ak (.there .here)<|aj<|ak (.there (.there .here))<|aj<|ak (.there (.there (.there .here)))<|aq<|aU<|zee H Z hc ha hb q⟩
noncomputable def itOf:List Stmt->Expr
 | .For _ it _ _ _ :: _=>it
 | _=>default
noncomputable def testOf:List Stmt->Expr
 | .For _ _ (.If t _ _ _ :: _) _ _ :: _=>t
 | _=>default
theorem zhl {v:V}{ps:List (Nat × Nat)}{L:Nat}(np:Lk ρ "pairs" v)(hv:RdL μ v (ps.map pairV))(hz:ps.length<=1000):W X (l+7) R (callEnv zaW L zan) ρ μ (itOf zbv) λ x dl=>dl=μ/\x = .lst ((flat ps).map VN):=by
 refine W.comp2 (zac rfl)<|cA<|ak np ⟨ps.map pairV,_,_,cY,hv,trivial,[],IvT12n2 μ ps,by simp,by simp,?_,(.mk rfl rfl),?_,?_⟩
 ·intro i ys dm dl hI;apply hI;exact hv
 ·intro R' C cl i z ys dm dl hz' hI
  apply hI
  obtain⟨⟨a,b⟩,hp,rfl,hd⟩:=zh1 hz'
  have hi:i<=1000:=by have:=(List.getElem?_eq_some_iff.mp hp).1;exact az (au (by assumption) (by assumption))
  have ht:flat (ps.take (i+1))=flat (ps.take i) ++ [a,b]:=by
   unfold flat
   rw [aK,hp,List.flatMap_append];rfl
  have hfl:(flat (ps.take i)).length<=2000:=by
   have:∀ qs:List (Nat × Nat),(flat qs).length=2 * qs.length:=by
    intro qs
    induction qs with
    | nil=>rfl
    | cons q qs ih=>show ((flat qs).length+1+1)=_;rw [ih];simp;exact Nat.add_assoc _ _ _
   rw [this,be];exact nri ‹_›
  refine cD dm "pair" (.tup [VN a,VN b]) λ t u=>?_
  refine ba (.inl rfl) u<|cR ⟨λ Y D=>BodyOk.inner λ R''=>cA<|ak u.lk ⟨[VN a,VN b],_,_,IT.tup,trivial,trivial,IvT12n3 _ i a b ps,λ Y Y Y Y Y=>trivial,(.mk rfl (by simp)),?_,?_⟩,λ e=>dead e⟩
  ·intro R3 j z' ys' ec dR hz2 hI
   apply hI
   apply mapE (L:=[a,b]) (f:=VN) hz2;intro c hc2
   have hj:[a,b].take (j+1)=[a,b].take j ++ [c]:=by rw [aK,hc2];rfl
   refine cD ec "n" (VN c) λ ea u4=>ba (.inl rfl) u4<|cR ⟨λ Y R4=>ak u4.lk ⟨sz (by simp;exact nrj ‹_›),.mk rfl (by rw [hj];simp)⟩,λ e=>dead e⟩
  ·intro ys' ec dR hI
   apply hI
   exact(.mk rfl (by rw [ht];rfl))
 ·intro ys dm dl hI
  apply hI
  rw [ah,aV]
  exact .inl ⟨rfl,rfl⟩
theorem zhS {c:Nat}{L:Nat}(H:HS μ w S)(T:TH μ)(n30:S.nodes.length<=30)(hs:Lk ρ "self" (.ref (.h 16)))(hn:Lk ρ "n" (VN c)):WB X (l+7) R (callEnv zaW L zan) ρ μ (testOf zbv) λ b dl=>dl=μ/\b = !decide (c < S.nodes.length) :=
 WB.not<|WB.chain2<|cT (n:=0)<|ak hn<|P2.leI ⟨_,rfl,λ e=>absurd e (by first | exact aI rfl | simp),λ Y=>aW (dd hs T .here (by kernel_rfl) trivial<|bc H.obj (f:=zaQ) (by kernel_rfl) (zab (by decide)) ⟨by kernel_rfl,aq<|aU<|zcS (l:=l+5) H n30<|P2.ltN<|bz ⟨rfl,rfl⟩⟩) rfl⟩
theorem zej {v:V}{ps:List (Nat × Nat)}{Q:V->Mem->Prop}(H:HS μ w S)(T:TH μ)(hm:S.mark = .no)(hw:S.wait=[])(n30:S.nodes.length<=30)(hc:S.changes.length<=49000)(hv:RdL μ v (ps.map pairV))(hvk:∀ dl,FrH μ dl->RdL dl v (ps.map pairV))(hz:ps.length<=1000)
  (hr:∀ p∈ps,p.1 < S.nodes.length/\p.2 < S.nodes.length) (r:TRun ps (S.wMk (.on S.changes.length)) S') (q:∀ dl,HS dl w S'->FrH μ dl->Q .none dl) :
  Cs X (l+8) (.ref zan) [.ref (.h 16),v] μ Q:=by
 refine zeV λ R L=>XB.loc2 λ ρ ns np=>?_
 refine bJ<|XS.for_<|cA<|(zhl (l:=l) np hv hz).mono ?_
 rintro x dl ⟨rfl,rfl⟩
 refine⟨_,_,_,cY,.lst,trivial,IvT12n4 dl v,λ i dm dA Y=>.lst,(.mk rfl ns np),?_,?_⟩
 ·clear ns np
  intro R' i z dm dA hz' hI
  apply hI;intro ns np
  apply mapE hz';intro c hc2
  have hcl:c < S.nodes.length:=by
   obtain⟨p,hp,hcp⟩:=List.mem_flatMap.mp (ap hc2)
   simp at hcp
   rcases hcp with e | e
   ·rw [e];exact(hr p hp).1
   ·rw [e];exact(hr p hp).2
  refine cD dm "n" (VN c) λ dE u1=>ba (.inl rfl) u1<|cZ<|(zhS (l:=l) H T n30 (u1.lk' ns (by decide)) u1.lk).mono ?_
  rintro b dA ⟨rfl,rfl⟩
  exact⟨λ hc=>(by simp [hcl]at hc),λ Y=>di<|cg ⟨λ Y=>(.mk rfl (u1.lk' ns (by decide)) (u1.lk' np (by decide))),λ x e=>dead e⟩⟩
 clear ns np
 intro dm dA hI
 apply hI;intro ns np
 refine⟨rfl,cO<|aW (dd ns T .here (by kernel_rfl) trivial<|bc H.obj (f:=zbe) (by kernel_rfl) (zab (by decide)) ⟨by kernel_rfl,aq<|aU<|ziq H hm hw hc λ dG H1 F1=>?_⟩) rfl⟩
 refine bJ<|XS.for_<|cA<|ak np ⟨ps.map pairV,_,_,cY,hvk _ F1,trivial,IvT12n1 S' dl w ps,λ i dm dD ⟨_,_,_,_,F⟩=>hvk _ F,⟨ns,_,H1,r,F1⟩,?_,?_⟩
 ·clear ns np
  rintro R' i z dm dD hz' ⟨ns,T',HT,rT,FT⟩
  obtain⟨⟨a,b⟩,hp,rfl,hd⟩:=zh1 hz'
  rw [hd]at rT
  obtain⟨Z,hc',ha,hb,rT⟩:=rT
  refine Up.e2 dm "a" (VN a) "b" (VN b) λ dE u1 dH u2=>?_
  have na:=u2.lk' u1.lk (by decide)
  have ns:=u2.lk' (u1.lk' ns (by decide)) (by decide)
  refine da<|dj rfl<|bI<|ba (.inl rfl) u1<|bI<|ba (.inl rfl) u2<|cX ?_
  exact cO<|aW<|dd ns (T.keep FT) .here (by kernel_rfl) trivial<|bc HT.obj (f:=zaH) (by kernel_rfl) (zab (by decide)) ⟨by kernel_rfl,aj<|ak na<|aj<|ak u2.lk<|aj<|cm<|aj<|dc<|aj<|dc<|aq ⟨szr rfl,aq<|aU<|zcj (r:=trialS) HT Z (nT hc' (by decide)) ha hb λ x dM H2 F2=>cg ⟨λ Y=>⟨ns,_,H2,rT,FT.trans F2⟩,λ x e=>dead e⟩⟩⟩
 ·clear ns np
  rintro dm dD ⟨ns,T',HT,rT,FT⟩
  rw [ah,List.drop_length]at rT
  obtain⟨k,rT⟩:=rT
  exact⟨rfl,cO<|aW (dd ns (T.keep FT) .here (by kernel_rfl) trivial<|bc HT.obj (f:=zas) (by kernel_rfl) (zab (by decide)) ⟨by kernel_rfl,aq<|aU<|zcl HT rT λ dA H2 F2=>cg<|q _ H2 (FT.trans F2)⟩) rfl⟩
end
structure Would (S:St)(ps:List (Nat × Nat))(a b:Nat)(c:Bool):Prop where
 run:∃ n S' S0,TRun (ps ++ [(a,a),(b,b)]) (S.wMk (.on S.changes.length)) S'/\Back n S' S0/\Wb S'/\S'.mark = .on S.changes.length/\S'.nodes=S.nodes/\S0.changes.length=S.changes.length/\(S0.wMk .no).wW []=S/\c=decide (root S'.ab a=root S'.ab b)
structure Calm (S:St):Prop where
 b:Wb S
 mark:S.mark = .no
 wait:S.wait=[]
 changes:S.changes.length<=40000
noncomputable def Fresh (k:Nat)(μ:Mem):Prop:=∀ j,k<=j->μ (.t j)=none
structure FrX (k:Nat)(μ dl:Mem):Prop where
 h:∀ n,16<=n->dl (.h n)=μ (.h n)
 t:∀ j,j < k->dl (.t j)=μ (.t j)
theorem FrX.rfl {k:Nat}{μ:Mem}:FrX k μ μ:=⟨λ Y Y=>_root_.rfl,λ Y Y=>_root_.rfl⟩
theorem FrX.trans {k:Nat}{a b c:Mem}(x:FrX k a b)(y:FrX k b c):FrX k a c:=⟨λ n h=>(y.h n h).trans (x.h n h),λ n h=>(y.t n h).trans (x.t n h)⟩
theorem FrX.le {k k':Nat}{a b:Mem}(x:FrX k a b)(h:k'<=k):FrX k' a b:=⟨x.h,λ n h'=>x.t n (by exact au (by assumption) (by assumption))⟩
theorem FrH.x {μ dl:Mem}(F:FrH μ dl){k:Nat}:FrX k μ dl:=⟨λ n h=>F _ (bK (cH h)),λ n Y=>F _ _root_.rfl⟩
theorem FrX.set {k j:Nat}{μ dl:Mem}(F:FrX k μ dl)(h:k<=j){o:MO}:FrX k μ (dl.set (.t j) o):=⟨λ n h'=>(av (by first | exact aI rfl | simp)).trans (F.h n h'),λ n h'=>(av (by simp;exact aF (nT ‹_› ‹_›))).trans (F.t n h')⟩
theorem Fresh.h {k:Nat}{μ dl:Mem}(f:Fresh k μ)(F:FrH μ dl):Fresh k dl:=λ j h=>(F _ rfl).trans (f j h)
theorem Fresh.le {k k':Nat}{μ:Mem}(f:Fresh k μ)(h:k<=k'):Fresh k' μ:=λ j h'=>f j (by exact nT (by assumption) (by assumption))
theorem Fresh.set {k j:Nat}{μ:Mem}(f:Fresh k μ)(h:j < k){o:MO}:Fresh k (μ.set (.t j) o):=λ i h'=>(av (by simp;exact bu (nT ‹_› ‹_›))).trans (f i h')
inductive PV (μ:Mem)(k:Nat):V->List V->Prop
 | lst {l:List V}:PV μ k (.lst l) l
 | ref {j:Nat} {l:List V}:j < k->μ (.t j)=some (.list l)->PV μ k (.ref (.t j)) l
theorem PV.rd {μ:Mem}{k:Nat}{v:V}{l:List V}(h:PV μ k v l):RdL μ v l:=by
 induction h with
 | lst=>exact .lst
 | ref _ h=>exact .ref h
theorem PV.keep {μ dl:Mem}{k:Nat}{v:V}{l:List V}(h:PV μ k v l)(F:FrX k μ dl):PV dl k v l:=by
 induction h with
 | lst=>exact .lst
 | ref hj h=>exact .ref hj ((F.t _ hj).trans h)
theorem TH.keepX {μ dl:Mem}{k:Nat}(h:TH μ)(F:FrX k μ dl):TH dl:=(F.h 16 (by decide)).trans h
theorem HS.setT {μ:Mem}{w j:Nat}{S:St}(H:HS μ w S){o:MO}:HS (μ.set (.t j) o) w S:=H.keep λ i h=>av (λ e=>by subst e;cases h)
section
variable {X:Ctx}{l:Nat}{μ:Mem}
variable {R:Nat->Option Obj}{env:Env}{ρ:Loc}{w:Nat}{S S':St}
theorem zem {v:V}{k:Nat}{ps:List (Nat × Nat)}{a b:Nat}{c:Bool}{Q:V->Mem->Prop}(H:HS μ w S)(T:TH μ)(C:Calm S)(hv:PV μ k v (ps.map pairV))(hz:ps.length<=900)
  (hr:∀ p∈ps,p.1 < S.nodes.length/\p.2 < S.nodes.length) (ha:a < S.nodes.length) (hb:b < S.nodes.length) (r:Would S ps a b c) (q:∀ dl,HS dl (w+1) S->FrH μ dl->Q (.bool c) dl) :
  Cs X (l+9) (.ref zaL) [.ref (.h 16),v,VN a,VN b] μ Q:=by
 refine E38 (r.run) λ n S' S0 r1 r2 r3 r4 r5 r6 r7 q9=>?_;subst q9
 have hn:=C.b.n30
 have hc:=C.changes
 refine zfj λ R L=>XB.loc4 λ ρ ns np na nb=>cO<|aW<|ak ns<|bc T (f:=zan) (by kernel_rfl) (by decide) ⟨by kernel_rfl,aj<|cF<|cB (.type "list") (aj<|ak np<|aq<|CV.listL hv.rd (sz (by rw [ah];exact nT (by assumption) (nB rfl))) (.inl ?_))⟩
 refine cV<|aj<|cm<|aj<|ak na<|aj<|ak na<|aq ⟨szr rfl,aj<|cm<|aj<|ak nb<|aj<|ak nb<|aq ⟨szr rfl,aq ⟨szr rfl,.inl<|P2.addL .lst .lst (sz (by simp;exact nT (by assumption) (nB rfl))) (.inl<|aq<|aU ?_)⟩⟩⟩
 have e:ps.map pairV ++ [V.tup [VN a,VN a],V.tup [VN b,VN b]]=(ps ++ [(a,a),(b,b)]).map pairV:=by rw [ax];rfl
 refine bo (e) ▸ ?_
 refine zej H T C.mark C.wait hn (by exact nT (by assumption) (nB rfl)) .lst (λ Y Y=>.lst) (by simp;exact nT (by assumption) (nB rfl)) (λ p hp=>?_) r1 λ dG H1 F1=>?_
 ·rcases List.mem_append.mp hp with h | h
  ·exact hr p h
  ·simp at h;rcases h with rfl | rfl
   ·exact⟨ha,ha⟩
   ·exact⟨hb,hb⟩
 refine db (.inl rfl)<|aW<|dd ns (T.keep F1) .here (by kernel_rfl) trivial<|bc H1.obj (f:=zaN) (by kernel_rfl) (zab (by decide)) ⟨by kernel_rfl,aj<|ak na<|aj<|ak nb<|aq<|aU<|zhs H1 r3 (by rw [r5];exact ha) (by rw [r5];exact hb) ?_⟩
 refine cD ρ "found" (.bool (decide (root S'.ab a=root S'.ab b))) λ dE u1=>⟨dE,u1,?_⟩
 refine cO<|aW (dd (u1.lk' ns (by decide)) (T.keep F1) .here (by kernel_rfl) trivial<|bc H1.obj (f:=za1) (by kernel_rfl) (zab (by decide)) ⟨by kernel_rfl,aq<|aU<|zg6 H1 r4 r2 r6 (by exact nT (by assumption) (nB rfl)) λ dA H2 F2=>bZ<|ak u1.lk<|q _ ?_ (F1.trans F2)⟩) rfl
 rw [r7]at H2;exact H2
end
noncomputable def opOk (t:Str):Bool:=t != "" && t.cps.toList.all (λ c=>!Txt.isspace ⟨#[c]⟩ && !Txt.contains "()[]{},:" ⟨#[c]⟩) && match t.cps[0]? with | some c=>(⟨#[c]⟩:Str) != "?" | none=>false
inductive KV:V->List Nat->Prop
 | tup {ks:List Nat}:KV (.tup (ks.map VN)) ks
 | lst {ks:List Nat}:KV (.lst (ks.map VN)) ks
theorem seq0 {n:Nat}(h:0 < n):seqIndex? ((0:Nat):Int) n=some 0:=by
 unfold seqIndex?
 have:((0:Int) < n):=by exact Int.ofNat_lt.mpr (‹_›)
 simp [this]
 exact bu (by assumption)
section
variable {X:Ctx}{l:Nat}{μ:Mem}
variable {R:Nat->Option Obj}{env:Env}{ρ:Loc}{w:Nat}{S S':St}
theorem zhK {t:Str}{Q:V->Mem->Prop}(h:opOk t=true)(q:Q (.bool true) μ):Cs X (l+2) (.ref zgK) [.str t] μ Q:=by
 unfold opOk at h
 simp only [bl,List.all_eq_true]at h
 obtain⟨⟨h1,h2⟩,-⟩:=h
 refine zjR λ R L=>bZ<|W.and2<|W.cmp<|ak .here<|dc<|P2.ne (n:=0) (.str _ _) (by decide)<|bz ⟨λ Y=>?_,λ hc=>absurd hc (by simpa using h1)⟩
 refine W.cmp<|dg (zac rfl)<|cA<|ak .here ⟨signsV t,_,_,IT.str,trivial,trivial,[],λ i ys dm dl=>dl=μ/\ys=[]/\Opt1 "sign" dm,by simp,by simp,λ Y Y Y Y Y=>trivial,⟨rfl,rfl,.nil⟩,?_,?_⟩
 ·intro R' C cl i z ys dm dl hz q0;refine E03 (q0) λ q9 q8 o=>?_;clear q0;subst q9;subst q8
  unfold signsV at hz
  apply mapE hz;intro c hc
  obtain⟨c1,c2⟩:=h2 c (ap hc)
  refine ba (.inl rfl) o.up<|WIfs.one<|WB.or<|WB.plain<|aW (ak .here<|GM.str zie ⟨rfl,aq<|CV.isspace<|bz ⟨λ Y=>?_,λ hc=>?_⟩⟩) rfl
  ·refine WB.or<|cr<|ak .here<|dc<|P2.inS<|bz ⟨λ Y=>WB.orNil ⟨λ e=>dead e,λ Y=>⟨rfl,rfl,.one⟩⟩,λ hc=>?_⟩
   rw [hc]at c2;cases c2
  ·rw [hc]at c1;cases c1
 ·intro ys dm dl q0;refine E03 (q0) λ q9 q8 _=>?_;clear q0;subst q9;subst q8
  refine .inl<|cV<|aq ⟨szr rfl,.inl<|P2.eq (n:=1) (.list .lst .lst rfl .nilL) (by decide) q⟩
theorem zf1 {t:Str}{Q:V->Mem->Prop}(h:opOk t=true)(q:Q .none μ):Cs X (l+3) (.ref zaX) [.ref (.h 1),.str t] μ Q:=by
 have h':=h
 unfold opOk at h'
 simp only [bl]at h'
 obtain⟨-,h3⟩:=h'
 refine zd2 λ R L=>cZ<|WB.or<|WB.not<|WB.plain<|de (cS rfl (by kernel_rfl) ⟨rfl,aj<|ak (.there .here)<|aq<|aU<|zhK h<|bz ⟨λ Y=>?_,λ hc=>absurd hc (by decide)⟩⟩) (by kernel_rfl)
 induction e:t.cps[0]? with
 | none=>rw [e]at h3;cases h3
 | some c =>
  rw [e]at h3
  have hz:0 < t.cps.size:=by
   rcases Nat.eq_zero_or_pos t.cps.size with h | h
   ·rw [Array.getElem?_eq_none (by exact aG ‹_›)]at e;cases e
   ·exact h
  refine WB.or<|cr<|cC<|ak (.there .here)<|cT (n:=0)<|P2.itemS (i:=(0:Nat)) (j:=0) (by decide) (by decide) (seq0 hz) e<|dc<|P2.eq (n:=0) (.str _ _) (by decide)<|bz ⟨λ Y=>WB.orNil ⟨λ e=>dead e,λ Y=>di<|cg q⟩,λ hc=>?_⟩
  have h4:((⟨#[c]⟩:Str) != "?")=true:=h3
  rw [bne,hc]at h4;cases h4
theorem zjg {op:Str}{v:V}{ks:List Nat}{nodes:List Nd}{i:Nat}{Q:V->Mem->Prop}(B:BH μ nodes)(hn:nodes.length<=30)(hv:KV v ks)(hk:ks.length<=10)(hi:nodes.idxOf? (op,ks)=some i)(q:Q (VN i) μ):Cs X (l+4) (.ref zaA) [.ref (.h 1),.str op,v] μ Q:=by
 refine E13 (B.numbers) λ es e1 e2 e3=>?_
 have hz:(ks.map VN).length<=sizeLine:=sz (by rw [ah];exact nT (by assumption) (nB rfl))
 refine zdQ λ R L=>db (.inl rfl)<|cF<|cm<|aj<|ak (.there .here)<|aq ⟨szr rfl,cB (.type "tuple") (aj<|ak (.there<|.there .here)<|aq<|(?_:CV _ _ _ _ _ _ _ [v] λ x dl=>dl=μ/\x = .tup (ks.map VN)).mono ?_)⟩
 ·induction hv with
  | tup=>exact CV.tupleT ⟨rfl,rfl⟩
  | lst=>exact CV.tupleL .lst hz ⟨rfl,rfl⟩
 ·rintro x dl ⟨rfl,rfl⟩
  refine P2.addT (sz (by simp;lia)) ⟨_,.there (by decide)<|.there (by decide)<|.there (by decide) .new,?_⟩
  have e4:aget es (ndK (op,ks))=some (VN i):=by rw [e3,hi];rfl
  have ek:V.tup ([.str op] ++ ks.map VN)=kT.key (ndK (op,ks)):=(zhL (op,ks)).symm
  refine bo (ek) ▸ ?_
  refine cZ<|cr<|ak (.there<|.there<|.there .here)<|dd .here B.obj (.there .here) (by kernel_rfl) trivial<|P2.inD (kd:=kT) e1<|bz ⟨λ Y=>?_,λ hc=>by rw [e4]at hc;cases hc⟩
  exact bZ<|cC<|dd .here B.obj (.there .here) (by kernel_rfl) trivial<|ak (.there<|.there<|.there .here)<|P2.itemD (kd:=kT) e1 e4 ⟨λ e=>dead e,λ x e=>by cases e;exact q⟩
theorem zjy {nodes:List Nd}{n m:Nd}(h:nodes.idxOf? n=none):(nodes ++ [n]).idxOf? m=if m=n then some nodes.length else nodes.idxOf? m:=by
 unfold List.idxOf? at h ⊢
 rw [List.findIdx?_append]
 by_cases e:m=n
 ·subst e
  rw [h,aB rfl];simp
 ·rw [aw e]
  induction e2:List.findIdx? (λ x=>x == m) nodes with
  | some i=>simp
  | none =>
   have:(n == m)=false:=by simpa using λ q=>e q.symm
   simp [this]
theorem W.pick {F:Str}{i:Id}{xs:List Int}{ks:List Nat}{scope:Scope}{it:Expr}{p1 p2 p3 p4 p5 pos:Pos}{Q:V->Mem->Prop}(c:CompOk scope env)(hfree:(("self":Str),NameKind.free)∈scope.names)(hs:(("self":Str),V.ref (.h 1))∈ρ)
  (hkid:∀ C cl,(compEnvC scope cl C env).kindOf "kid" = some .local) {fs:List (Str × V)} (hob:μ (.h 1)=some (.inst zgN fs)) (hF:Lk fs F (.ref i)) (hf:fieldOk (X.K) zgN F=true) (hi:μ i=some (.list (xs.map .int))) (hz:ks.length<=10) (hxz:xs.length<=1000) (hks:∀ k∈ks,k < xs.length)
  (hit:W X l R env ρ μ it λ x dp=>x = .tup (ks.map VN)/\dp=μ) (q:Q (.lst ((ks.map λ k=>xs.getD k 0).map .int)) μ)
  (he:∀ env,eval (.Attribute (.Name "self" p1) F p2) env=(do let o <- eval (.Name "self" p1) env;standAt p2.atName;let r <- PySem.holding [o] (getAttr o F true);letTemporaryGo (.Name "self" p1) o r;pure r):=by intro _;rfl)
  (hg:(λ x=>pure x)=foldedSetIterable it env:=by exact rfl) :
  W X l R env ρ μ (.ListComp (.Subscript (.Attribute (.Name "self" p1) F p2) (.Name "kid" p3) p4) [⟨.Name "kid" p5,it,[],0⟩] scope pos) Q:=by
 refine dg c (cA<|hit.mono ?_) hg
 rintro x dp ⟨rfl,rfl⟩
 refine⟨ks.map VN,_,_,IT.tup,trivial,trivial,[(("self":Str),.ref (.h 1))],λ i ys dm dl=>dl=dp/\ys=((ks.take i).map λ k=>xs.getD k 0).map .int/\∃ r,dm=(("self":Str),V.ref (.h 1)) :: r/\Opt1 "kid" r,?_,by simp,λ Y Y Y Y Y=>trivial,⟨rfl,rfl,[],rfl,.nil⟩,?_,?_⟩
 ·intro p hp
  rw [aZ]at hp
  subst hp
  exact⟨hs,hfree⟩
 ·intro R' C cl i z ys dm dl hz' q0;refine E03 (q0) λ q9 q8 q7=>?_;clear q0;subst q9;subst q8;obtain⟨r,rfl,o⟩:=q7
  apply mapE hz';intro k hk
  have hkl:=hks k (ap hk)
  refine ba (.inl (hkid _ _)) (.there (by decide) o.up) (cR ⟨λ Y R9=>cC<|dd .here hob hF (by exact hf) trivial (he:=he)<|ak (.there .here)<|bX (z:=.int (xs.getD k 0)) (.ref hi) (by exact nT (az ‹_›) (nT ‹_› (by decide))) (by rw [aD];simp [hkl]) ⟨sz (by simp;exact nT (bg _ _) (nT ‹_› (by decide))),rfl,?_,_,rfl,.one⟩,λ e=>dead e⟩)
  rw [aK,hk,ax,ax];rfl
 ·intro ys dm dl q0;refine E03 (q0) λ q9 q8 _=>?_;clear q0;subst q9;subst q8
  rw [ah,aV]
  exact .inl q
noncomputable def IvT14c (op:Str)(ks:List Nat)(μ:Mem)(i:Nat)(dm:Loc)(dl:Mem):Prop:=∀ (C:Mem->Prop),(Lk dm "self" (.ref (.h 1))->Lk dm "node" (.tup ([.str op] ++ ks.map VN))->C μ)->C dl
theorem IvT14c.mk {op:Str}{ks:List Nat}{μ:Mem}{i:Nat}{dm:Loc}{dl:Mem}(e:dl=μ)(h1:Lk dm "self" (.ref (.h 1)))(h2:Lk dm "node" (.tup ([.str op] ++ ks.map VN))):IvT14c op ks μ i dm dl:=by
 subst e;exact λ C k=>k h1 h2
theorem zjj {op:Str}{v:V}{ks:List Nat}{nodes:List Nd}{Q:V->Mem->Prop}(B:BH μ nodes)(hn:nodes.length<=29)(ho:opOk op=true)(hv:KV v ks)(hk:ks.length<=10)(hkl:∀ k∈ks,k < nodes.length)(hi:nodes.idxOf? (op,ks)=none)
  (q:∀ dl,BH dl (nodes ++ [(op,ks)])->(∀ j,j ≠ .h 3->j ≠ .h 4->j ≠ .h 5->j ≠ .h 6->dl j=μ j)->Q (VN nodes.length) dl):Cs X (l+4) (.ref zaA) [.ref (.h 1),.str op,v] μ Q:=by
 refine E13 (B.numbers) λ es e1 e2 e3=>?_
 refine E12 (B.weights) λ ws w1 w2=>?_
 refine E12 (B.depths) λ ds d1 d2=>?_
 have hz:(ks.map VN).length<=sizeLine:=sz (by rw [ah];exact nT (by assumption) (nB rfl))
 refine zdQ λ R L=>XB.loc3 λ ρ0 ns no nk=>db (.inl rfl)<|cF<|cm<|aj<|ak no<|aq ⟨szr rfl,cB (.type "tuple") (aj<|ak nk<|aq<|(?_:CV _ _ _ _ _ _ _ [v] λ x dl=>dl=μ/\x = .tup (ks.map VN)).mono ?_)⟩
 ·induction hv with
  | tup=>exact CV.tupleT ⟨rfl,rfl⟩
  | lst=>exact CV.tupleL .lst hz ⟨rfl,rfl⟩
 rintro x dl ⟨rfl,rfl⟩
 refine cD ρ0 "node" (.tup ([.str op] ++ ks.map VN)) λ ρ u=>P2.addT (sz (by simp;lia)) ⟨ρ,u,?_⟩
 have nn:=u.lk
 have ns:=u.lk' ns (by decide)
 have no:=u.lk' no (by decide)
 clear u nk
 have e4:aget es (ndK (op,ks))=none:=by rw [e3,hi];rfl
 have ek:V.tup ([.str op] ++ ks.map VN)=kT.key (ndK (op,ks)):=(zhL (op,ks)).symm
 refine cZ<|cr<|ak nn<|dd ns B.obj (.there .here) (by kernel_rfl) trivial<|?_
 refine bo (ek) ▸ ?_
 refine P2.inD (kd:=kT) e1<|bz ⟨λ hc=>(by rw [e4]at hc;cases hc),λ Y=>di ?_⟩
 refine cO<|aW<|ak ns<|bc B.obj (f:=zaX) (by kernel_rfl) (by decide) ⟨by kernel_rfl,aj<|ak no<|aq<|aU<|zf1 ho ?_⟩
 refine bJ<|XS.for_<|cA<|W.sliceT<|ak nn<|WP.one<|cT (n:=1) ⟨1,rfl,_,1,rfl,rfl,by exact an _,by simp,sz (by simp;exact nT (by assumption) (nB rfl)),ks.map VN,_,_,IT.tup,trivial,trivial,IvT14c op ks dl,λ Y Y Y Y=>trivial,(.mk rfl ns nn),?_,?_⟩
 ·clear ns nn
  intro R' i z dm dA hz' hI
  apply hI;intro ns nn
  apply mapE hz';intro c hc2
  have hcl:=hkl c (ap hc2)
  refine cD dm "kid" (VN c) λ dH u2=>ba (.inl rfl) u2 ?_
  have ns:=u2.lk' ns (by decide)
  have nn:=u2.lk' nn (by decide)
  refine cZ<|WB.not<|WB.chain2<|cT (n:=0)<|ak u2.lk<|P2.leI ⟨_,rfl,λ e=>absurd e (by first | exact aI rfl | simp),λ Y=>cB (.builtin "len") (aj<|dd ns B.obj .here (by kernel_rfl) trivial<|aq<|cW (.ref B.nds) (sz (by rw [ah];exact nT (by assumption) (nB rfl))) ?_)⟩
  refine P2.ltI<|bz ⟨λ hc=>?_,λ Y=>di<|cg ⟨λ Y=>(.mk rfl ns nn),λ x e=>dead e⟩⟩
  simp at hc;exact(cH ‹_› ‹_›).elim
 clear ns nn
 intro dm dA hI
 apply hI;intro ns nn;refine⟨rfl,?_⟩
 refine XB.setI<|cB (.builtin "len") (aj<|dd ns B.obj .here (by kernel_rfl) trivial<|aq<|CV.lenM (.ref B.nds) (sz (by exact nT (by assumption) (nB rfl))) ?_)
 refine dd ns B.obj (.there .here) (by kernel_rfl) trivial<|ak nn ?_
 refine bo (ek) ▸ ?_
 refine SI.dict (kd:=kT) e1 (sz (by exact nT ‹_› (nT ‹_› (by decide)))) ?_
 have k1:∀ j,j ≠ .h 4->(dl.set (.h 4) (kT.mo (aput es (ndK (op,ks)) (VN nodes.length)))) j=dl j:=λ j h=>av h
 have g1:(dl.set (.h 4) (kT.mo (aput es (ndK (op,ks)) (VN nodes.length)))) (.h 4)=some (.dT (aput es (ndK (op,ks)) (VN nodes.length))):=aN
 change XB _ _ _ _ _ (dl.set (.h 4) (kT.mo (aput es (ndK (op,ks)) (VN nodes.length)))) _ _
 generalize dl.set (.h 4) (kT.mo (aput es (ndK (op,ks)) (VN nodes.length)))=dD at k1 g1 ⊢
 have b3:=(k1 _ (by decide)).trans B.obj
 refine cO<|aW<|dd ns b3 .here (by kernel_rfl) trivial<|cL zaj (.ref ((k1 _ (by decide)).trans B.nds)) ⟨rfl,aj<|ak nn<|aq<|cQ ((k1 _ (by decide)).trans B.nds) (sz (by rw [ah];exact nT (by assumption) (nB rfl))) ?_⟩
 have k2:∀ j,j ≠ .h 4->j ≠ .h 3->(dD.set (.h 3) (.list (nodes.map ndV ++ [V.tup ([.str op] ++ ks.map VN)]))) j=dl j:=λ j h h'=>(av h').trans (k1 _ h)
 have g2:(dD.set (.h 3) (.list (nodes.map ndV ++ [V.tup ([.str op] ++ ks.map VN)]))) (.h 4)=some (.dT (aput es (ndK (op,ks)) (VN nodes.length))):=(av (by decide)).trans g1
 have g3:(dD.set (.h 3) (.list (nodes.map ndV ++ [V.tup ([.str op] ++ ks.map VN)]))) (.h 3)=some (.list ((nodes ++ [(op,ks)]).map ndV)):=Mem.get_eq.trans (by rw [ax];rfl)
 generalize dD.set (.h 3) (.list (nodes.map ndV ++ [V.tup ([.str op] ++ ks.map VN)]))=dM at k2 g2 g3 ⊢
 have b4:=(k2 _ (by decide) (by decide)).trans B.obj
 have w4:=(k2 _ (by decide) (by decide)).trans w1
 have d4:=(k2 _ (by decide) (by decide)).trans d1
 have sl:∀ {μ:Mem} {p1 p2 p3 p4:Pos} {k:Nat},W X (l+3) R (cellEnv zbP L zaA) dm μ (.Subscript (.Name "node" p1) (.Slice (some (.Constant (.int 1) k p2)) none none p3) p4) λ x dp=>x = .tup (ks.map VN)/\dp=μ:=λ {μ p1 p2 p3 p4 k}=>W.sliceT<|ak nn<|WP.one<|cT (n:=1) ⟨1,rfl,_,1,rfl,rfl,by exact an _,by simp,sz (by simp;exact nT (by assumption) (nB rfl)),rfl,rfl⟩
 refine cO<|aW<|dd ns b4 (.there<|.there .here) (by kernel_rfl) trivial<|cL zaj (.ref w4) ⟨rfl,aj<|cF<|cT (n:=1)<|cB (.builtin "sum") (aj<|W.pick (zac rfl) (by decide) ns.mem (λ Y Y=>rfl) b4 (.there<|.there .here) (by kernel_rfl) w4 hk (by exact nT (aG ‹_›) (nT ‹_› (by decide))) (by rw [w2];exact hkl) sl<|aq<|CV.sumL .lst<|P2.addI<|aq<|cQ w4 (sz (by rw [ah];exact nT (aG ‹_›) (nT ‹_› (by decide)))) ?_)⟩
 have k3:∀ (o:MO) j,j ≠ .h 4->j ≠ .h 3->j ≠ .h 5->(dM.set (.h 5) o) j=dl j:=λ o j h h' h2=>(av h2).trans (k2 _ h h')
 generalize hs:(1:Int)+(ks.map λ k=>ws.getD k 0).sum=sw
 have g5:(dM.set (.h 5) (.list (ws.map .int ++ [V.int sw]))) (.h 5)=some (.list ((ws ++ [sw]).map .int)):=Mem.get_eq.trans (by rw [ax];rfl)
 have g2:(dM.set (.h 5) (.list (ws.map .int ++ [V.int sw]))) (.h 4)=some (.dT (aput es (ndK (op,ks)) (VN nodes.length))):=(av (by decide)).trans g2
 have g3:(dM.set (.h 5) (.list (ws.map .int ++ [V.int sw]))) (.h 3)=some (.list ((nodes ++ [(op,ks)]).map ndV)):=(av (by decide)).trans g3
 have k3:=k3 (.list (ws.map .int ++ [V.int sw]))
 generalize dM.set (.h 5) (.list (ws.map .int ++ [V.int sw]))=dZ at k3 g2 g3 g5 ⊢
 have b5:=(k3 _ (by decide) (by decide) (by decide)).trans B.obj
 have d5:=(k3 _ (by decide) (by decide) (by decide)).trans d1
 refine cO<|aW<|dd ns b5 (.there<|.there<|.there .here) (by kernel_rfl) trivial<|cL zaj (.ref d5) ⟨rfl,aj<|cF<|cT (n:=1)<|cB (.builtin "max") (aj<|cF<|W.pick (zac rfl) (by decide) ns.mem (λ Y Y=>rfl) b5 (.there<|.there<|.there .here) (by kernel_rfl) d5 hk (by exact nT (aG ‹_›) (nT ‹_› (by decide))) (by rw [d2];exact hkl) sl<|cV<|aj<|W.cint<|aq ⟨szr rfl,.inl<|P2.addL .lst .lst (sz (by simp;exact nT (by assumption) (nB rfl))) (.inl<|aq ?_)⟩)⟩
 have em:(ks.map λ k=>ds.getD k 0).map V.int ++ [.int 0]=((ks.map λ k=>ds.getD k 0) ++ [(0:Int)]).map .int:=by rw [ax];rfl
 refine bo (em) ▸ ?_
 refine CV.maxL .lst (by first | exact aI rfl | simp) λ M Y Y=>P2.addI<|aq<|cQ d5 (sz (by rw [ah];exact nT (aG ‹_›) (nT ‹_› (by decide)))) ?_
 generalize hs:((1:Nat):Int)+M=sd
 have g6:(dZ.set (.h 6) (.list (ds.map .int ++ [V.int sd]))) (.h 6)=some (.list ((ds ++ [sd]).map .int)):=Mem.get_eq.trans (by rw [ax];rfl)
 have k4:∀ j,j ≠ .h 4->j ≠ .h 3->j ≠ .h 5->j ≠ .h 6->(dZ.set (.h 6) (.list (ds.map .int ++ [V.int sd]))) j=dl j:=λ j h h' h2 h3=>(av h3).trans (k3 _ h h' h2)
 have g2:(dZ.set (.h 6) (.list (ds.map .int ++ [V.int sd]))) (.h 4)=some (.dT (aput es (ndK (op,ks)) (VN nodes.length))):=(av (by decide)).trans g2
 have g3:(dZ.set (.h 6) (.list (ds.map .int ++ [V.int sd]))) (.h 3)=some (.list ((nodes ++ [(op,ks)]).map ndV)):=(av (by decide)).trans g3
 have g5:(dZ.set (.h 6) (.list (ds.map .int ++ [V.int sd]))) (.h 5)=some (.list ((ws ++ [sw]).map .int)):=(av (by decide)).trans g5
 generalize dZ.set (.h 6) (.list (ds.map .int ++ [V.int sd]))=eA at k4 g2 g3 g5 g6 ⊢
 have b6:=(k4 _ (by decide) (by decide) (by decide) (by decide)).trans B.obj
 refine bZ<|cF<|cB (.builtin "len") (aj<|dd ns b6 .here (by kernel_rfl) trivial<|aq<|cW (.ref g3) (sz (by simp;exact nT (by assumption) (nB rfl))) ?_)
 refine cT (n:=1)<|P2.subI ?_
 have el:(((List.map ndV (nodes ++ [(op,ks)])).length:Int) - (1:Nat))=(nodes.length:Nat):=by
  rw [ah,aC];simp
 rw [el]
 refine q eA ⟨b6,g3,⟨_,g2,?_,λ nd=>?_⟩,⟨_,g5,by simp [w2]⟩,⟨_,g6,by simp [d2]⟩⟩ λ j h3 h4 h5 h6=>k4 j h4 h3 h5 h6
 ·have:=zd0 (l:=es) (k:=ndK (op,ks)) (v:=VN nodes.length)
  rw [aC];simp;exact nsj ‹_› ‹_›
 ·rw [zdU,zjy hi,e3]
  by_cases e:nd=(op,ks)
  ·rw [aB (by rw [e]),aB e];rfl
  ·rw [aw λ h=>e (zeI h),aw e]
end
/-! the heap as it is built -/
noncomputable def users (nodes:List Nd)(c:Nat):List Nat:=nodes.zipIdx.filterMap λ p=>if p.1.2.contains c then some p.2 else none
noncomputable def bch (nodes:List Nd):List Ch:=nodes.zipIdx.flatMap λ p=>[.made p.2,.known p.1]
noncomputable def Built (nodes:List Nd):St:={ nodes:=nodes,ab:=List.range nodes.length,lots:=(List.range nodes.length).map λ i=>[i],mg:=[],edges:=[],forest:=[],known:=nodes.zipIdx,U:=λ c=>if c < nodes.length then some (users nodes c)else none,wait:=[],changes:=bch nodes,mark:=.no,made:=nodes.length,ul:=nodes.length }
theorem zhA (nodes:List Nd)(nd:Nd)(c:Nat):users (nodes ++ [nd]) c=users nodes c ++ if nd.2.contains c then [nodes.length]else []:=by
 unfold users
 rw [List.zipIdx_append,List.filterMap_append]
 congr 1
 rw [Nat.zero_add,List.zipIdx_singleton]
 by_cases h:c∈nd.2 <;> simp [h]
theorem zi9 (nodes:List Nd)(nd:Nd):bch (nodes ++ [nd])=bch nodes ++ [.made nodes.length,.known nd]:=by
 unfold bch
 rw [List.zipIdx_append,List.flatMap_append]
 simp
noncomputable def esX (n:Nat):List (Int × V):=(List.range n).map λ (c:Nat)=>((c:Int),V.ref (.usr c))
theorem zcL {K:Type} [DecidableEq K] {k:K} {v:V} {m:List (K × V)}:∀ {l:List (K × V)},aget l k=some v->aget (l ++ m) k=some v
 | (a,u) :: r,h=>by
  rw [zaq]at h
  show aget ((a,u) :: (r ++ m)) k=_
  rw [zaq]
  by_cases e:a=k
  ·rw [aB e]at h ⊢;exact h
  ·rw [aw e]at h ⊢;exact zcL h
theorem zcO {K:Type} [DecidableEq K] {k:K} {m:List (K × V)}:∀ {l:List (K × V)},aget l k=none->aget (l ++ m) k=aget m k
 | [],_=>rfl
 | (a,u) :: r,h=>by
  rw [zaq]at h
  show aget ((a,u) :: (r ++ m)) k=_
  conv=>lhs;rw [zaq]
  by_cases e:a=k
  ·rw [aB e]at h;cases h
  ·rw [aw e]at h ⊢;exact zcO h
theorem zbF {K:Type} [DecidableEq K] {k:K} {v:V}:∀ {l:List (K × V)},aget l k=none->aput l k v=l ++ [(k,v)]
 | [],_=>rfl
 | (a,u) :: r,h=>by
  rw [zaq]at h
  show aput ((a,u) :: r) k v=(a,u) :: (r ++ [(k,v)])
  rw [zdn]
  by_cases e:a=k
  ·rw [aB e]at h;cases h
  ·rw [aw e]at h ⊢;rw [zbF h]
theorem zeU {n c:Nat}:aget (esX n) (c:Int)=if c < n then some (.ref (.usr c))else none:=by
 induction n with
 | zero=>rfl
 | succ n ih =>
  unfold esX at ih ⊢
  rw [List.range_succ,ax]
  by_cases h:c < n
  ·rw [aB h]at ih
   rw [aB (by exact bf (by assumption))]
   exact zcL ih
  ·rw [aw h]at ih
   rw [zcO ih]
   show aget [((n:Int),V.ref (.usr n))] (c:Int)=_
   rw [zaq]
   by_cases e:n=c
   ·subst e;rw [aB rfl,aB (by exact an _)]
   ·rw [aw (by (intro e;cases e;contradiction)),aw (by lia)];rfl
theorem zjN {n:Nat}:aput (esX n) (n:Int) (.ref (.usr n))=esX (n+1):=by
 have h:aget (esX n) (n:Int)=none:=by rw [zeU,aw (by simp_all)]
 unfold esX at h ⊢
 rw [List.range_succ,ax]
 exact zbF h
structure EsX (μ:Mem)(n:Nat)(U:Nat->Option (List Nat)):Prop where
 es:μ (.h 13)=some (.dI (esX n))
 val:∀ c,c < n->∃ l,U c=some l/\μ (.usr c)=some (.list (l.map VN))
 no:∀ c,n<=c->U c=none
 fresh:∀ c,n<=c->μ (.usr c)=none
theorem zij (n:Nat):((esX n).map (·.1)).Nodup:=by
 unfold esX
 rw [bv]
 refine List.Pairwise.map _ (λ a b h=>?_) List.nodup_range
 intro e
 have:(a:Int)=b:=by simpa using e
 exact h (by exact Int.ofNat_inj.mp ‹_›)
theorem EsX.ok {μ:Mem}{n:Nat}{U:Nat->Option (List Nat)}(E:EsX μ n U):UsOk μ (esX n) U:=by
 refine⟨zij n,λ c=>?_⟩
 by_cases h:c < n
 ·refine E12 (E.val c h) λ l h1 h2=>?_
  rw [h1];exact⟨_,by rw [zeU,aB h],.ref h2⟩
 ·rw [E.no c (by exact Nat.not_lt.mp (by assumption))];show aget _ _=_;rw [zeU,aw h]
noncomputable def noE:List Ch->Bool
 | []=>true
 | .edge .. :: _=>false
 | _ :: r=>noE r
theorem ChVs.keepN {μ dl:Mem}{cs:List Ch}{vs:List V}(h:ChVs μ cs vs)(n:noE cs=true):ChVs dl cs vs:=by
 induction h with
 | nil=>exact .nil
 | cons y _ ih=>induction y with
  | made=>exact .cons .made (ih n)
  | known=>exact .cons .known (ih n)
  | edge=>cases n
theorem ziJ (nodes:List Nd):noE (bch nodes)=true:=by
 unfold bch
 generalize nodes.zipIdx=zs
 induction zs with
 | nil=>rfl
 | cons z zs ih=>exact ih
noncomputable def St.wN (S:St)(nodes:List Nd):St:={ S with nodes:=nodes }
section
variable {μ:Mem}{w:Nat}{S:St}(H:HS μ w S)
include H
theorem HS.setB {dl:Mem}{nodes:List Nd}(B:BH dl nodes)(fr:∀ j,j ≠ .h 3->j ≠ .h 4->j ≠ .h 5->j ≠ .h 6->dl j=μ j):HS dl w (S.wN nodes):=by
 have ku:∀ c,dl (.usr c)=μ (.usr c):=λ c=>fr _ (by first | exact aI rfl | simp) (by first | exact aI rfl | simp) (by first | exact aI rfl | simp) (by first | exact aI rfl | simp)
 have kh:∀ n,n < 3∨6 < n->dl (.h n)=μ (.h n):=λ n h=>fr _ (by simp;(rintro rfl;contradiction)) (by simp;(rintro rfl;contradiction)) (by simp;(rintro rfl;contradiction)) (by simp;(rintro rfl;contradiction))
 have kw:∀ n,dl (.w n)=μ (.w n):=λ n=>fr _ (by first | exact aI rfl | simp) (by first | exact aI rfl | simp) (by first | exact aI rfl | simp) (by first | exact aI rfl | simp)
 have kl:∀ n,dl (.lot n)=μ (.lot n):=λ n=>fr _ (by first | exact aI rfl | simp) (by first | exact aI rfl | simp) (by first | exact aI rfl | simp) (by first | exact aI rfl | simp)
 refine E13 (H.us) λ es e1 e2 e3=>?_
 refine E12 (H.changes) λ cs c1 c2=>?_
 have U:=H.U
 exact⟨⟨(kh _ (by decide)).trans H.obj,B,⟨(kh _ (by decide)).trans U.hu,(kh _ (by decide)).trans U.hab,(kh _ (by decide)).trans U.hlots,λ i x h=>(kl _).trans (U.hlot i x h),(kh _ (by decide)).trans U.hmg⟩⟩,(kh _ (by decide)).trans H.edges,(kh _ (by decide)).trans H.forest,(kh _ (by decide)).trans H.known,⟨es,(kh _ (by decide)).trans e1,e2.keep ku,e3⟩,(kw _).trans H.wait,⟨cs,(kh _ (by decide)).trans c1,c2.keep ku⟩,H.marks.keep (kh _ (by decide)) (kw _),λ j h=>(kw _).trans (H.fresh j h)⟩
theorem HS.addUsr {n:Nat}(E:EsX μ n S.U)(he:noE S.changes=true){o:MO}(ho:o=kI.mo (aput (esX n) (n:Int) (.ref (.usr n)))) :
  HS ((μ.set (.usr n) (.list [])).set (.h 13) o) w (S.wU (upd S.U n (some [])) (n+1))/\EsX ((μ.set (.usr n) (.list [])).set (.h 13) o) (n+1) (upd S.U n (some [])):=by
 have ho:o = .dI (esX (n+1)):=by rw [ho,zjN];rfl
 have k1:∀ m,m≠13->((μ.set (.usr n) (.list [])).set (.h 13) o) (.h m)=μ (.h m):=λ m h=>(hne h).trans (av (by first | exact aI rfl | simp))
 have k2:∀ m,((μ.set (.usr n) (.list [])).set (.h 13) o) (.w m)=μ (.w m):=λ m=>wne.trans (av (by first | exact aI rfl | simp))
 have k3:∀ m,((μ.set (.usr n) (.list [])).set (.h 13) o) (.lot m)=μ (.lot m):=λ m=>lne.trans (av (by first | exact aI rfl | simp))
 have k4:∀ m,m≠n->((μ.set (.usr n) (.list [])).set (.h 13) o) (.usr m)=μ (.usr m):=λ m h=>une.trans (av (by simpa using h))
 have E':EsX ((μ.set (.usr n) (.list [])).set (.h 13) o) (n+1) (upd S.U n (some [])):=by
  refine⟨by rw [ho];exact aN,λ d hd=>?_,λ d hd=>?_,λ d hd=>(k4 _ (by exact bu (by assumption))).trans (E.fresh d (by exact az (by assumption)))⟩
  ·unfold upd
   by_cases e:d=n
   ·subst e;rw [aB rfl];exact⟨[],rfl,une.trans aN⟩
   ·rw [aw e]
    refine E12 (E.val d (by exact aX (aR ‹_›) ‹_›)) λ m h1 h2=>?_
    exact⟨m,h1,(k4 _ e).trans h2⟩
  ·unfold upd;rw [aw (by exact bu (by assumption))];exact E.no d (by exact az (by assumption))
 refine E12 (H.changes) λ cs c1 c2=>?_
 exact⟨⟨H.hb.keep (λ n h=>k1 n (by exact aF (nT ‹_› (by decide)))) k3,(k1 _ (by decide)).trans H.edges,(k1 _ (by decide)).trans H.forest,(k1 _ (by decide)).trans H.known,⟨esX (n+1),E'.es,E'.ok,by unfold esX;simp;rfl⟩,(k2 _).trans H.wait,⟨cs,(k1 _ (by decide)).trans c1,c2.keepN he⟩,H.marks.keep (k1 _ (by decide)) (k2 _),λ j h=>(k2 _).trans (H.fresh j h)⟩,E'⟩
theorem HS.setUsr {n c:Nat}{l:List Nat}{l':List V}(E:EsX μ n S.U)(hn:n=S.ul)(hc:c < n)(hl:l'=l.map VN)(he:noE S.changes=true) :
  HS (μ.set (.usr c) (.list l')) w (S.wU (upd S.U c (some l)) S.ul)/\EsX (μ.set (.usr c) (.list l')) n (upd S.U c (some l)):=by
 have k1:∀ n,(μ.set (.usr c) (.list l')) (.h n)=μ (.h n):=λ n=>av (by first | exact aI rfl | simp)
 have k2:∀ n,(μ.set (.usr c) (.list l')) (.w n)=μ (.w n):=λ n=>av (by first | exact aI rfl | simp)
 have k3:∀ n,(μ.set (.usr c) (.list l')) (.lot n)=μ (.lot n):=λ n=>av (by first | exact aI rfl | simp)
 have E':EsX (μ.set (.usr c) (.list l')) n (upd S.U c (some l)):=by
  refine⟨(k1 _).trans E.es,λ d hd=>?_,λ d hd=>?_,λ d hd=>(av (by simp;exact bu (nT ‹_› ‹_›))).trans (E.fresh d hd)⟩
  ·unfold upd
   by_cases e:d=c
   ·subst e;rw [aB rfl];exact⟨l,rfl,by rw [aN,hl]⟩
   ·rw [aw e]
    refine E12 (E.val d hd) λ m h1 h2=>?_
    exact⟨m,h1,(av (by simpa using e)).trans h2⟩
  ·unfold upd;rw [aw (by exact bu (nT ‹_› ‹_›))];exact E.no d hd
 refine E12 (H.changes) λ cs c1 c2=>?_
 exact⟨⟨H.hb.keep (λ n Y=>k1 n) k3,(k1 _).trans H.edges,(k1 _).trans H.forest,(k1 _).trans H.known,⟨esX n,(k1 _).trans E.es,E'.ok,by unfold esX;simp [hn];rfl⟩,(k2 _).trans H.wait,⟨cs,(k1 _).trans c1,c2.keepN he⟩,H.marks.keep (k1 _) (k2 _),λ j h=>(k2 _).trans (H.fresh j h)⟩,E'⟩
end
theorem KA.shape {k:KA}{v:Value}(h:k.isB v=true):(∃ x t,k = .s x/\v = .str x t)∨∃ n t,k = .i n/\v = .int n t :=
 KA.el h (λ k v=>(∃ x t,k = .s x/\v = .str x t)∨∃ n t,k = .i n/\v = .int n t) (λ x t=>.inl ⟨x,t,rfl,rfl⟩) λ n t=>.inr ⟨n,t,rfl,rfl⟩
/-! open addressing: where a search goes -/
open SetTable in
noncomputable def hd (m:Nat)(h:Int):Nat->Nat × Nat
 | 0=>(bits h % (m+1),bits h)
 | q+1=>leap m (hd m h q).1 (hd m h q).2
noncomputable def tm (m:Nat)(h:Int):Nat->Nat
 | 0=>0
 | q+1=>tm m h q+(SetTable.runEnd m (hd m h q).1 - (hd m h q).1)+1
noncomputable def adv (m:Nat)(p:SetTable.Probe):SetTable.Probe :=
 if p.more > 0 then { p with j:=p.j+1,more:=p.more - 1 } else
 { p with j:=(SetTable.leap m p.i p.perturb).1,more:=SetTable.runEnd m (SetTable.leap m p.i p.perturb).1 - (SetTable.leap m p.i p.perturb).1,i:=(SetTable.leap m p.i p.perturb).1,perturb:=(SetTable.leap m p.i p.perturb).2 }
theorem zer (t:SetTable)(p:SetTable.Probe):t.advance p=adv t.mask p:=rfl
noncomputable def itr (m:Nat)(h:Int):Nat->SetTable.Probe
 | 0=>{ j:=SetTable.bits h % (m+1),more:=SetTable.runEnd m (SetTable.bits h % (m+1)) - SetTable.bits h % (m+1),i:=SetTable.bits h % (m+1),perturb:=SetTable.bits h,dummy:=none }
 | k+1=>adv m (itr m h k)
noncomputable def pj (m:Nat)(h:Int)(k:Nat):Nat:=(itr m h k).j
theorem zha (t:SetTable)(h:Int):t.probeStart h=itr t.mask h 0:=rfl
theorem zfq {m i:Nat}(h:i<=m):SetTable.runEnd m i<=m:=by unfold SetTable.runEnd;split <;> assumption
theorem zfV (m i:Nat):i<=SetTable.runEnd m i:=by unfold SetTable.runEnd;split <;> lia
theorem zjs (m i:Nat):SetTable.runEnd m i - i<=9:=by unfold SetTable.runEnd;split <;> lia
theorem zj0 (m:Nat)(h:Int):∀ q,(hd m h q).1<=m
 | 0=>aR (Nat.mod_lt _ (Nat.succ_pos m))
 | q+1=>aR (Nat.mod_lt _ (Nat.succ_pos m))
theorem zka (m:Nat)(h:Int):∀ q,tm m h q<=10 * q
 | 0=>an _
 | q+1=>by
  have h1:=zka m h q
  have h2:=zjs m (hd m h q).1
  unfold tm
  lia
theorem zgL (m:Nat)(h:Int):∀ q r,r<=SetTable.runEnd m (hd m h q).1 - (hd m h q).1->itr m h (tm m h q+r)={ j:=(hd m h q).1+r,more:=SetTable.runEnd m (hd m h q).1 - (hd m h q).1 - r,i:=(hd m h q).1,perturb:=(hd m h q).2,dummy:=none }:=by
 intro q
 induction q with
 | zero =>
  intro r
  induction r with
  | zero=>intro _;rfl
  | succ r ih =>
   intro hr
   have e:itr m h (tm m h 0+(r+1))=adv m (itr m h (tm m h 0+r)):=rfl
   rw [e,ih (Nat.le_of_succ_le hr)]
   unfold adv
   dsimp only
   rw [aB (by exact Nat.sub_pos_of_lt ‹_›)]
   congr 1
 | succ q ihq =>
  intro r
  induction r with
  | zero =>
   intro _
   have e:itr m h (tm m h (q+1)+0)=adv m (itr m h (tm m h q+(SetTable.runEnd m (hd m h q).1 - (hd m h q).1))):=rfl
   rw [e,ihq _ (an _)]
   unfold adv
   dsimp only
   rw [aw (by simp_all)]
   rfl
  | succ r ih =>
   intro hr
   have e:itr m h (tm m h (q+1)+(r+1))=adv m (itr m h (tm m h (q+1)+r)):=rfl
   rw [e,ih (Nat.le_of_succ_le hr)]
   unfold adv
   dsimp only
   rw [aB (by exact Nat.sub_pos_of_lt ‹_›)]
   congr 1
theorem ziL (m:Nat)(h:Int)(q:Nat):pj m h (tm m h q)=(hd m h q).1:=by
 have:=zgL m h q 0 (bR _)
 unfold pj
 rw [Nat.add_zero]at this
 rw [this];rfl
theorem zil (m:Nat)(h:Int):∀ k,∃ q r,k=tm m h q+r/\r<=SetTable.runEnd m (hd m h q).1 - (hd m h q).1:=by
 intro k
 induction k with
 | zero=>exact⟨0,0,rfl,bR _⟩
 | succ k ih =>
  refine E22 (ih) λ q r e hr=>?_
  by_cases h1:r < SetTable.runEnd m (hd m h q).1 - (hd m h q).1
  ·exact⟨q,r+1,by exact cw Nat.succ ‹_›,h1⟩
  ·refine⟨q+1,0,?_,bR _⟩
   unfold tm
   lia
theorem zkn (m:Nat)(h:Int)(k:Nat):pj m h k<=m:=by
 refine E22 (zil m h k) λ q r q9 hr=>?_;subst q9
 unfold pj
 rw [zgL m h q r hr]
 have h1:=zfq (zj0 m h q)
 have h2:=zfV m (hd m h q).1
 show (hd m h q).1+r<=m
 exact nqW ‹_› ‹_› ‹_›
theorem zfw (m:Nat)(h:Int)(k:Nat):(itr m h k).dummy=none:=by
 refine E22 (zil m h k) λ q r q9 hr=>?_;subst q9
 rw [zgL m h q r hr]
theorem zj1 (h:Int):SetTable.bits h < 2 ^ 64:=by unfold SetTable.bits;lia
theorem ziX (m:Nat)(h:Int):∀ q,(hd m h q).2=SetTable.bits h / 32 ^ q
 | 0=>by simp [hd]
 | q+1=>by
  show (hd m h q).2 / 32=_
  rw [ziX m h q,Nat.div_div_eq_div_mul,Nat.pow_succ]
theorem zjJ (m:Nat)(h:Int){q:Nat}(hq:13<=q):(hd m h q).2=0:=by
 rw [ziX]
 refine Nat.div_eq_of_lt (au (zj1 h) ?_)
 exact nT (by decide) (Nat.pow_le_pow_right (n:=32) (by decide) hq)
noncomputable def orb (m:Nat):Nat->Nat->Nat
 | 0,i=>i
 | r+1,i=>(orb m r i * 5+1) % (m+1)
theorem zik (m:Nat)(h:Int):∀ r,(hd m h (13+r)).1=orb m r (hd m h 13).1
 | 0=>rfl
 | r+1=>by
  have e:(hd m h (13+(r+1))).1=((hd m h (13+r)).1 * 5+1+(hd m h (13+r)).2 / 32) % (m+1):=rfl
  rw [e,zjJ m h (aS _ _),zik m h r]
  rfl
theorem zjo:∀ i,i < 8->∀ j,j < 8->∃ r,r < 8/\orb 7 r i=j:=by decide +kernel
theorem ziF:∀ i,i < 32->∀ j,j < 32->∃ r,r < 32/\orb 31 r i=j:=by decide +kernel
noncomputable def Msk (m:Nat):Prop:=m=7∨m=31
theorem cover {m:Nat}(hm:Msk m)(h:Int){j:Nat}(hj:j<=m):∃ q,q<=m+13/\(hd m h q).1=j:=by
 have h0:=zj0 m h 13
 rcases hm with rfl | rfl
 ·refine E12 (zjo _ (Nat.lt_succ_of_le h0) j (Nat.lt_succ_of_le hj)) λ r h1 h2=>?_
  exact⟨13+r,by lia,by rw [zik];exact h2⟩
 ·refine E12 (ziF _ (Nat.lt_succ_of_le h0) j (Nat.lt_succ_of_le hj)) λ r h1 h2=>?_
  exact⟨13+r,by lia,by rw [zik];exact h2⟩
structure First (m:Nat)(h:Int)(occ:Nat->Prop)(k:Nat):Prop where
 free:¬ occ (pj m h k)
 ahead:∀ k',k' < k->occ (pj m h k')
theorem zg9 {m:Nat}{h:Int}{occ:Nat->Prop}:∀ n,¬ occ (pj m h n)->∃ k,k<=n/\First m h occ k:=by
 intro n
 induction n using Nat.strongRecOn with
 | ind n ih =>
  intro hn
  by_cases ha:∀ k',k' < n->occ (pj m h k')
  ·exact⟨n,an _,hn,ha⟩
  ·simp only [Classical.not_forall]at ha
   obtain⟨k',hk',ho⟩:=ha
   refine E12 (ih k' hk' ho) λ k h1 h2=>?_
   exact⟨k,nT h1 (az hk'),h2⟩
theorem zjq {m:Nat}(hm:Msk m)(h:Int){occ:Nat->Prop}{j:Nat}(hj:j<=m)(ho:¬ occ j):∃ k,k < 10 * SetTable.turns m/\First m h occ k:=by
 refine E12 (cover hm h hj) λ q hq e=>?_
 have:=zka m h q
 refine E12 (zg9 (m:=m) (h:=h) (occ:=occ) (tm m h q) (by rw [ziL,e];exact ho)) λ k h1 h2=>?_
 refine⟨k,?_,h2⟩
 unfold SetTable.turns
 lia
noncomputable abbrev Ent:=Nat × Int × Value
structure HT (m:Nat)(Z:List Ent)(t:SetTable)(es:Array (Int × Value)):Prop where
 msk:Msk m
 mask:t.mask=m
 place:t.place=(Z.map (·.1)).toArray
 dum:t.dummies = #[]
 es:es=(Z.map (·.2)).toArray
 inc:(Z.map (·.1)).Pairwise (· < ·)
 le:∀ p∈Z,p.1<=m
 reach:∀ p∈Z,∃ k,pj m p.2.1 k=p.1/\∀ k',k' < k->pj m p.2.1 k'∈Z.map (·.1)
theorem HT.rising {m:Nat}{Z:List Ent}{t:SetTable}{es:Array (Int × Value)}(H:HT m Z t es):SetTable.rising t.place=true:=by
 unfold SetTable.rising
 rw [H.place,List.all_eq_true]
 intro i hi
 rw [List.mem_range,bO]at hi
 have h1:i+1 < (Z.map (·.1)).length:=by exact nnE ‹_›
 have h0:i < (Z.map (·.1)).length:=by exact cK ‹_›
 have:=(List.pairwise_iff_getElem.mp H.inc) i (i+1) h0 h1 (bw i)
 simp only [Array.getD,bO,h0,h1,dite_true,decide_eq_true_eq]
 simpa using this
theorem zeh {xs:Array Nat}(h:SetTable.rising xs=true)(j:Nat):SetTable.below xs j<=xs.size/\(∀ k,k < SetTable.below xs j->xs.getD k 0 < j)/\∀ k,SetTable.below xs j<=k->k < xs.size->j<=xs.getD k 0 :=
 zdz xs j h xs.size 0 xs.size (aY _ _) (bR _) (an _) (λ k hk=>absurd hk (cG _)) (λ k hk hs=>absurd hs (cH hk))
theorem zi8 {xs:Array Nat}(h:SetTable.rising xs=true){i:Nat}(hi:i < xs.size):SetTable.below xs (xs.getD i 0)=i:=by
 obtain⟨h1,h2,h3⟩:=zeh h (xs.getD i 0)
 rcases Nat.lt_trichotomy (SetTable.below xs (xs.getD i 0)) i with q | q | q
 ·have a:=h3 _ (an _) (bU q hi)
  exact absurd (zbW h i _ q hi) (cH a)
 ·exact q
 ·exact absurd (h2 i q) (bj _)
section
variable {m:Nat}{Z:List Ent}{t:SetTable}{es:Array (Int × Value)}
theorem HT.size (H:HT m Z t es):t.place.size=Z.length:=by rw [H.place,bO,ah]
theorem HT.getD (H:HT m Z t es){i:Nat}{p:Ent}(h:Z[i]? = some p):t.place.getD i 0=p.1:=by
 have hi:=(List.getElem?_eq_some_iff.mp h).1
 rw [H.place,cI,List.getElem?_toArray,aD,h];rfl
theorem HT.slot_live (H:HT m Z t es){i:Nat}{p:Ent}(h:Z[i]? = some p):t.slot p.1 = .live i:=by
 have hi:=(List.getElem?_eq_some_iff.mp h).1
 have e:SetTable.below t.place p.1=i:=by rw [<- H.getD h];exact zi8 H.rising (by rw [H.size];exact hi)
 unfold SetTable.slot
 dsimp only
 rw [e,H.place,List.getElem?_toArray,aD,h]
 simp
theorem HT.slot_empty (H:HT m Z t es){j:Nat}(h:j∉Z.map (·.1)):t.slot j = .empty:=by
 unfold SetTable.slot
 dsimp only
 rw [aw,aw]
 ·unfold SetTable.has
  rw [H.dum];simp
 ·intro q
  have q:=eq_of_beq q
  rw [H.place,List.getElem?_toArray]at q
  exact h (ap q)
theorem zjB {j:Nat}(h:j∈Z.map (·.1)):∃ (i:Nat) (p:Ent),Z[i]? = some p/\p.1=j:=by
 obtain⟨p,hp,e⟩:=List.mem_map.mp h
 obtain⟨i,hi,e2⟩:=bH hp
 exact⟨i,p,by rw [al hi,e2],e⟩
noncomputable def Skip (m:Nat)(Z:List Ent)(h:Int)(k k1:Nat):Prop:=∀ k',k<=k'->k' < k1->∀ p∈Z,p.1=pj m h k'->p.2.1≠h
inductive Meets (m:Nat)(Z:List Ent)(h:Int)(K k:Nat):Option SetTable.Met->Prop
 | cand (k1 i:Nat) (p:Ent) (h1:k<=k1) (h2:k1 < K) (h3:Z[i]? = some p) (h4:p.1=pj m h k1) (h5:p.2.1=h) (h6:Skip m Z h k k1):Meets m Z h K k (some (.candidate (pj m h k1) i (itr m h (k1+1))))
 | empty (h6:Skip m Z h k K):Meets m Z h K k (some (.empty (pj m h K) none))
theorem HT.go (H:HT m Z t es){hashAt:Nat->Int}(ha:∀ i p,Z[i]? = some p->hashAt i=p.2.1){h:Int}{K:Nat}(F:First m h (· ∈ Z.map (·.1)) K):∀ fuel k,k<=K->K - k < fuel->Meets m Z h K k (SetTable.probe.go t hashAt h fuel (itr m h k)):=by
 intro fuel
 induction fuel with
 | zero=>intro k _ h;exact absurd h (cG _)
 | succ fuel ih =>
  intro k hk hf
  unfold SetTable.probe.go
  rcases bN k K with q | q
  ·refine E22 (zjB (F.ahead k q)) λ i p h1 h2=>?_
   have e:t.slot (itr m h k).j = .live i:=by
    have:(itr m h k).j=p.1:=h2.symm
    rw [this];exact H.slot_live h1
   rw [e]
   dsimp only
   have adv1:t.advance (itr m h k)=itr m h (k+1):=by rw [zer,H.mask];rfl
   rw [ha i p h1,adv1]
   by_cases hh:p.2.1=h
   ·rw [aB (by simpa using hh)]
    exact .cand k i p (an _) q h1 h2 hh λ k' a b=>absurd b (cH a)
   ·rw [aw (by simpa using hh)]
    have sk:∀ {k1},Skip m Z h (k+1) k1->Skip m Z h k k1:=λ {k1} s k' a b p' hp' e'=>by
     rcases bN k k' with c | c
     ·exact s k' c b p' hp' e'
     ·obtain rfl:k'=k:=bV c a
      have:p'=p:=by
       obtain⟨i',hi',e3⟩:=bH hp'
       have g1:Z[i']? = some p':=by rw [al hi',e3]
       have s1:=H.slot_live g1
       have s2:=H.slot_live h1
       have e'':p'.1=p.1:=e'.trans h2.symm
       rw [e'',s2]at s1
       cases s1
       rw [g1]at h1;cases h1;rfl
      rw [this];exact hh
    have:=ih (k+1) q (by exact nnD ‹_› ‹_›)
    generalize SetTable.probe.go t hashAt h fuel (itr m h (k+1))=r at this
    cases this with
    | cand k1 i' p' a1 a2 a3 a4 a5 a6=>exact .cand k1 i' p' (Nat.le_of_succ_le a1) a2 a3 a4 a5 (sk a6)
    | empty a6=>exact .empty (sk a6)
  ·obtain rfl:k=K:=bV hk q
   have e:t.slot (itr m h k).j = .empty:=H.slot_empty F.free
   rw [e]
   dsimp only
   rw [zfw]
   exact .empty λ k' a b=>absurd b (cH a)
theorem HT.met (H:HT m Z t es){K:Nat}{p:Ent}(hp:p∈Z)(F:First m p.2.1 (· ∈ Z.map (·.1)) K):∃ k,k < K/\pj m p.2.1 k=p.1:=by
 refine E12 (H.reach p hp) λ k h1 h2=>?_
 refine⟨k,?_,h1⟩
 rcases Nat.lt_trichotomy k K with q | q | q
 ·exact q
 ·subst q
  exact absurd (by rw [h1];exact List.mem_map.mpr ⟨p,hp,rfl⟩) F.free
 ·exact absurd (h2 K q) F.free
theorem HT.put (H:HT m Z t es){h:Int}{v:Value}{K:Nat}(F:First m h (· ∈ Z.map (·.1)) K):∃ Z',Z'.Perm ((pj m h K,h,v) :: Z)/\HT m Z' (t.put (pj m h K)).1 (SetTable.insertAt es (t.put (pj m h K)).2 (h,v)):=by
 have hb:=zeh H.rising (pj m h K)
 have hsz:=H.size
 refine⟨Z.take (SetTable.below t.place (pj m h K)) ++ (pj m h K,h,v) :: Z.drop (SetTable.below t.place (pj m h K)),?_,?_⟩
 ·refine List.perm_middle.trans (List.Perm.cons _ ?_)
  rw [List.take_append_drop]
 ·generalize hq:SetTable.below t.place (pj m h K)=q at hb
  obtain⟨b1,b2,b3⟩:=hb
  have mem:∀ x,x∈Z.take q ++ (pj m h K,h,v) :: Z.drop q↔x=(pj m h K,h,v)∨x∈Z:=λ x=>by
   conv=>rhs;rw [<- List.take_append_drop q Z]
   simp only [List.mem_append,bD]
   constructor
   ·rintro(a | a | a)
    ·exact .inr (.inl a)
    ·exact .inl a
    ·exact .inr (.inr a)
   ·rintro(a | a | a)
    ·exact .inr (.inl a)
    ·exact .inl a
    ·exact .inr (.inr a)
  have sub:∀ j,j∈Z.map (·.1)->j∈(Z.take q ++ (pj m h K,h,v) :: Z.drop q).map (·.1):=λ j hj=>by
   obtain⟨p,hp,e⟩:=List.mem_map.mp hj
   exact List.mem_map.mpr ⟨p,(mem p).mpr (.inr hp),e⟩
  have pg:∀ k (hk:k < Z.length),t.place.getD k 0=(Z[k]).1:=λ k hk=>H.getD (al hk)
  refine⟨H.msk,H.mask,?_,?_,?_,?_,λ p hp=>?_,λ p hp=>?_⟩
  ·show SetTable.insertAt t.place (SetTable.below t.place (pj m h K)) (pj m h K)=_
   rw [hq,H.place]
   apply Array.toList_inj.mp
   rw [SetTable.toList_insertAt]
   simp
  ·show (if SetTable.has t.dummies (pj m h K)then _ else t.dummies) = #[]
   rw [aw,H.dum]
   rw [H.dum];unfold SetTable.has;simp
  ·show SetTable.insertAt es (SetTable.below t.place (pj m h K)) (h,v)=_
   rw [hq,H.es]
   apply Array.toList_inj.mp
   rw [SetTable.toList_insertAt]
   simp
  ·rw [ax,aH]
   refine List.pairwise_append.mpr ⟨?_,List.pairwise_cons.mpr ⟨λ a ha=>?_,?_⟩,λ a ha b hb'=>?_⟩
   ·rw [List.map_take];exact H.inc.sublist (List.take_sublist _ _)
   ·obtain⟨p,hp,e⟩:=List.mem_map.mp ha
    obtain⟨i,hi,e2⟩:=bH hp
    rw [List.length_drop]at hi
    rw [List.getElem_drop]at e2
    have:=b3 (q+i) (aS _ _) (by rw [hsz];grind only)
    rw [pg (q+i) (by grind only),e2,e]at this
    refine aX this λ e3=>F.free ?_
    have e3:pj m h K=a:=e3
    rw [e3,<- e]
    exact List.mem_map.mpr ⟨p,List.mem_of_mem_drop hp,rfl⟩
   ·rw [List.map_drop];exact H.inc.sublist (List.drop_sublist _ _)
   ·obtain⟨p,hp,e⟩:=List.mem_map.mp ha
    obtain⟨i,hi,e2⟩:=bH hp
    rw [be]at hi
    rw [List.getElem_take]at e2
    have hiq:i < q:=by simp_all
    have alt:=b2 i hiq
    rw [pg i (by exact nut ‹_› ‹_› ‹_›),e2,e]at alt
    rcases List.mem_cons.mp hb' with rfl | hb'
    ·exact alt
    ·obtain⟨p',hp',e'⟩:=List.mem_map.mp hb'
     obtain⟨i',hi',e2'⟩:=bH hp'
     rw [List.length_drop]at hi'
     rw [List.getElem_drop]at e2'
     have:=b3 (q+i') (aS _ _) (by rw [hsz];grind only)
     rw [pg (q+i') (by grind only),e2',e']at this
     exact au alt this
  ·rcases(mem p).mp hp with rfl | hp
   ·exact zkn m h K
   ·exact H.le p hp
  ·rcases(mem p).mp hp with rfl | hp
   ·exact⟨K,rfl,λ k' hk'=>sub _ (F.ahead k' hk')⟩
   ·refine E12 (H.reach p hp) λ k h1 h2=>?_
    exact⟨k,h1,λ k' hk'=>sub _ (h2 k' hk')⟩
theorem HT.first (H:HT m Z t es)(hz:Z.length<=m)(h:Int):∃ K,K < 10 * SetTable.turns m/\First m h (· ∈ Z.map (·.1)) K:=by
 obtain⟨j,hj,ho⟩:∃ j,j<=m/\j∉Z.map (·.1):=by
  refine ci λ hn=>?_
  have hall:∀ j,j<=m->j∈Z.map (·.1):=λ j hj=>ci λ q=>hn ⟨j,hj,q⟩
  have hsub:List.Subset (List.range (m+1)) (Z.map (·.1)):=λ j hj=>hall j (aR (List.mem_range.mp hj))
  have:=(List.nodup_range (n:=m+1)).length_le_of_subset hsub
  rw [aL,ah]at this
  exact Nat.not_le_of_lt ‹_› ‹_›
 exact zjq H.msk h hj ho
end
/-! laying a table anew -/
noncomputable def occO (owner:Array (Option Nat))(j:Nat):Prop:=∃ i,owner[j]? = some (some i)
theorem First.uniq {m:Nat}{h:Int}{occ:Nat->Prop}{k k':Nat}(a:First m h occ k)(b:First m h occ k'):k=k':=by
 rcases Nat.lt_trichotomy k k' with q | q | q
 ·exact absurd (b.ahead k q) a.free
 ·exact q
 ·exact absurd (a.ahead k' q) b.free
theorem zcT {m:Nat}{owner:Array (Option Nat)}(hs:owner.size=m+1){j:Nat}(hj:j<=m):(owner.getD j (some 0)).isNone=true ↔ ¬ occO owner j:=by
 have hlt:j < owner.size:=by exact ntd ‹_› ‹_›
 unfold occO
 rw [cI,bp hlt]
 show (owner[j]).isNone=true↔_
 cases owner[j]with
 | none=>simp
 | some i=>simp
theorem zic {m:Nat}{owner:Array (Option Nat)}{h:Int}{K:Nat}(hs:owner.size=m+1)(F:First m h (occO owner) K):∀ fuel q,(∀ k',k' < tm m h q->occO owner (pj m h k'))->K < tm m h (q+fuel)->SetTable.layClean.free m owner fuel (hd m h q).1 (hd m h q).2=some (pj m h K):=by
 intro fuel
 induction fuel with
 | zero=>intro q ha hK;exact absurd (ha K hK) F.free
 | succ fuel ih =>
  intro q ha hK
  unfold SetTable.layClean.free
  have run:∀ r,r<=SetTable.runEnd m (hd m h q).1 - (hd m h q).1->pj m h (tm m h q+r)=(hd m h q).1+r:=λ r hr=>by unfold pj;rw [zgL m h q r hr]
  have ge:=zfV m (hd m h q).1
  have le:=zfq (zj0 m h q)
  cases hf:(List.range (SetTable.runEnd m (hd m h q).1+1 - (hd m h q).1)).find? (λ k=>(owner.getD ((hd m h q).1+k) (some 0)).isNone)with
  | some k =>
   dsimp only
   have h1:=List.find?_some hf
   have h2:=List.mem_range.mp (List.mem_of_find?_eq_some hf)
   have hk:k<=SetTable.runEnd m (hd m h q).1 - (hd m h q).1:=by exact nnB ‹_› ‹_›
   refine E22 ((List.find?_eq_some_iff_append.mp hf).2) λ as bs e hno=>?_
   have F':First m h (occO owner) (tm m h q+k):=by
    refine⟨?_,λ k' hk'=>?_⟩
    ·rw [run k hk];exact(zcT hs (by exact nnC ‹_› ‹_› ‹_›)).mp h1
    ·rcases bN k' (tm m h q)with c | c
     ·exact ha k' c
     ·obtain⟨r,rfl⟩:=Nat.exists_eq_add_of_le c
      have hr:r < k:=by simp_all
      rw [run r (by exact nT (bA _) (nT ‹_› ‹_›))]
      have hra:r∈as:=by
       have lt:as.length=k:=by
        have:(List.range (SetTable.runEnd m (hd m h q).1+1 - (hd m h q).1))[as.length]? = some k:=by rw [e];simp
        rw [bC (by
         have:=cw List.length e
         rw [aL,aC,bx]at this
         simp_all)]at this
        exact Option.some.inj this
       have:as[r]? = some r:=by
        have e1:(as ++ k :: bs)[r]? = as[r]?:=bG (by exact bP ‹_› (bo ‹_›))
        rw [<- e1,<- e,bC (by exact bU ‹_› ‹_›)]
       exact ap this
      have:=hno r hra
      refine ci λ q2=>?_
      rw [(zcT hs (by lia)).mpr q2]at this
      exact absurd this (by decide)
   have e2:K=tm m h q+k:=F.uniq F'
   rw [e2,run k hk]
  | none =>
   dsimp only
   rw [List.find?_eq_none]at hf
   refine ih (q+1) (λ k' hk'=>?_) (by rw [show q+1+fuel=q+(fuel+1)by exact bB _ _ _];exact hK)
   rcases bN k' (tm m h q)with c | c
   ·exact ha k' c
   ·obtain⟨r,rfl⟩:=Nat.exists_eq_add_of_le c
    have et:tm m h (q+1)=tm m h q+(SetTable.runEnd m (hd m h q).1 - (hd m h q).1)+1:=rfl
    rw [et]at hk'
    rw [run r (by exact nte ‹_›)]
    have:=hf r (List.mem_range.mpr (by exact ntf ‹_› ‹_›))
    exact ci λ q2=>this ((zcT hs (by exact ntg ‹_› ‹_› ‹_›)).mpr q2)
structure LC (m:Nat)(hs:List Int)(js:List Nat)(owner:Array (Option Nat)):Prop where
 size:owner.size=m+1
 len:js.length=hs.length
 own:∀ j i,owner[j]? = some (some i)↔js[i]? = some j/\j<=m
 le:∀ j∈js,j<=m
 nd:js.Nodup
 reach:∀ (i j:Nat) (h:Int),js[i]? = some j->hs[i]? = some h->∃ k,pj m h k=j/\∀ k',k' < k->pj m h k'∈js
theorem LC.occ {m:Nat}{hs:List Int}{js:List Nat}{owner:Array (Option Nat)}(L:LC m hs js owner){j:Nat}:occO owner j↔j∈js:=by
 constructor
 ·rintro⟨i,h⟩
  exact ap ((L.own j i).mp h).1
 ·intro h
  obtain⟨i,hi,e⟩:=bH h
  exact⟨i,(L.own j i).mpr ⟨by rw [al hi,e],L.le j h⟩⟩
noncomputable def layStep (m:Nat)(acc:Option (Array (Option Nat) × Nat))(h:Int):Option (Array (Option Nat) × Nat):=do
 let (owner,k) <- acc
 let j <- SetTable.layClean.free m owner (SetTable.turns m) (SetTable.bits h % (m+1)) (SetTable.bits h)
 pure (owner.setIfInBounds j (some k),k+1)
theorem LC.init (m:Nat):LC m [] [] (Array.replicate (m+1) none):=by
 refine⟨by simp,rfl,λ j i=>?_,by simp,by simp,by simp⟩
 constructor
 ·intro h
  rw [Array.getElem?_replicate]at h
  split at h
  ·cases h
  ·cases h
 ·rintro⟨h,_⟩;cases h
theorem LC.step {m:Nat}(hm:Msk m){hs:List Int}{js:List Nat}{owner:Array (Option Nat)}(L:LC m hs js owner)(hl:hs.length<=m)(h:Int):∃ j owner',layStep m (some (owner,hs.length)) h=some (owner',hs.length+1)/\LC m (hs ++ [h]) (js ++ [j]) owner':=by
 obtain⟨j,hj,ho⟩:∃ j,j<=m /\ ¬ occO owner j:=by
  refine ci λ hn=>?_
  have hall:∀ j,j<=m->j∈js:=λ j hj=>ci λ q=>hn ⟨j,hj,λ o=>q (L.occ.mp o)⟩
  have hsub:List.Subset (List.range (m+1)) js:=λ j hj=>hall j (aR (List.mem_range.mp hj))
  have:=(List.nodup_range (n:=m+1)).length_le_of_subset hsub
  rw [aL,L.len]at this
  exact Nat.not_le_of_lt ‹_› ‹_›
 refine E12 (cover hm h hj) λ q hq e=>?_
 refine E12 (zg9 (m:=m) (h:=h) (occ:=occO owner) (tm m h q) (by rw [ziL,e];exact ho)) λ K hK F=>?_
 have hKt:K < tm m h (0+SetTable.turns m):=by
  have mono:∀ a b,a<=b->tm m h a<=tm m h b:=λ a b hab=>by
   induction hab with
   | refl=>exact an _
   | step _ ih=>exact nT ih (aQ (aS _ _))
  have h1:tm m h q < tm m h (q+1):=by
   show tm m h q < tm m h q+(SetTable.runEnd m (hd m h q).1 - (hd m h q).1)+1
   lia
  have h2:=mono (q+1) (0+SetTable.turns m) (by unfold SetTable.turns;lia)
  lia
 have hfree:=zic L.size F (SetTable.turns m) 0 (λ k' hk'=>absurd hk' (cG _)) hKt
 have hjl:=zkn m h K
 have hno:pj m h K∉js:=λ q=>F.free (L.occ.mpr q)
 refine⟨pj m h K,owner.setIfInBounds (pj m h K) (some hs.length),?_,?_⟩
 ·unfold layStep
  show (SetTable.layClean.free m owner (SetTable.turns m) (hd m h 0).1 (hd m h 0).2 >>= λ j=>pure (owner.setIfInBounds j (some hs.length),hs.length+1))=_
  rw [hfree];rfl
 ·refine⟨by rw [Array.size_setIfInBounds];exact L.size,by simp [L.len],λ j i=>?_,λ j hj=>?_,?_,λ i j h' hi hh=>?_⟩
  ·rw [Array.getElem?_setIfInBounds]
   by_cases e1:pj m h K=j
   ·subst e1
    rw [aB rfl,aB (by rw [L.size];exact br (‹_›))]
    constructor
    ·intro e2
     cases e2
     exact⟨by rw [<- L.len,cz (an _),Nat.sub_self];rfl,hjl⟩
    ·rintro⟨e2,_⟩
     rcases bN i js.length with c | c
     ·rw [bG c]at e2
      exact absurd (ap e2) hno
     ·rw [cz c]at e2
      have:i - js.length=0:=by
       have:=(List.getElem?_eq_some_iff.mp e2).1
       simp at this;assumption
      have:i=hs.length:=by rw [<- L.len];exact nrz ‹_› ‹_›
      rw [this]
   ·rw [aw e1,L.own]
    constructor
    ·rintro⟨e2,e3⟩
     exact⟨by rw [bG (List.getElem?_eq_some_iff.mp e2).1];exact e2,e3⟩
    ·rintro⟨e2,e3⟩
     rcases bN i js.length with c | c
     ·rw [bG c]at e2;exact⟨e2,e3⟩
     ·rw [cz c]at e2
      have:=ap e2
      rw [aZ]at this
      exact absurd this.symm e1
  ·rcases List.mem_append.mp hj with a | a
   ·exact L.le j a
   ·rw [aZ]at a;rw [a];exact hjl
  ·rw [List.nodup_append]
   exact⟨L.nd,by simp,λ a ha b hb e1=>by rw [aZ]at hb;rw [e1,hb]at ha;exact hno ha⟩
  ·rcases bN i js.length with c | c
   ·rw [bG c]at hi
    rw [bG (by rw [<- L.len];exact c)]at hh
    refine E12 (L.reach i j h' hi hh) λ k h1 h2=>?_
    exact⟨k,h1,λ k' hk'=>cy _ (h2 k' hk')⟩
   ·rw [cz c]at hi
    rw [cz (by rw [<- L.len];exact c)]at hh
    have a1:=ap hi
    have a2:=ap hh
    rw [aZ]at a1 a2
    subst a1 a2
    exact⟨K,rfl,λ k' hk'=>cy _ (L.occ.mp (F.ahead k' hk'))⟩
theorem LC.fold {m:Nat}(hm:Msk m):∀ (rest:List Int) {hs:List Int} {js:List Nat} {owner:Array (Option Nat)},LC m hs js owner->hs.length+rest.length<=m+1->∃ js' owner',rest.foldl (layStep m) (some (owner,hs.length))=some (owner',hs.length+rest.length)/\LC m (hs ++ rest) js' owner'
 | [],hs,js,owner,L,_=>⟨js,owner,rfl,by rw [cM];exact L⟩
 | h :: rest,hs,js,owner,L,hl=>by
  rw [bx]at hl
  refine E22 (L.step hm (by exact ntb ‹_›) h) λ j owner1 e1 L1=>?_
  refine E22 (LC.fold hm rest L1 (by rw [aC,bS];exact nsi ‹_›)) λ js' owner' e2 L2=>?_
  refine⟨js',owner',?_,by rw [List.append_assoc]at L2;exact L2⟩
  rw [List.foldl_cons,e1]
  rw [aC,bS]at e2
  rw [e2,bx]
  congr 2
  exact bB _ _ _
theorem zgr {m:Nat}(hm:Msk m){hs:List Int}(hl:hs.length<=m+1):∃ js owner,SetTable.layClean m hs.toArray=some owner/\LC m hs js owner:=by
 refine E22 (LC.fold hm hs (LC.init m) (by simpa using hl)) λ js owner e L=>?_
 refine⟨js,owner,?_,by simpa using L⟩
 unfold SetTable.layClean
 rw [<- Array.foldl_toList]
 have:hs.foldl (layStep m) (some (Array.replicate (m+1) none,0))=some (owner,0+hs.length):=by simpa using e
 show (hs.foldl (layStep m) (some (Array.replicate (m+1) none,0))).map (·.1)=_
 rw [this];rfl
noncomputable def liveL (m:Nat)(owner:Array (Option Nat)):List (Nat × Nat):=(List.range (m+1)).filterMap λ j=>(owner.getD j none).map (j,·)
theorem zfF {m:Nat}{owner:Array (Option Nat)}{j i:Nat}:(j,i)∈liveL m owner↔j<=m/\owner[j]? = some (some i):=by
 unfold liveL
 rw [List.mem_filterMap]
 constructor
 ·intro q0;refine E12 (q0) λ x hx e=>?_;clear q0
  obtain⟨y,hy,e2⟩:=Option.map_eq_some_iff.mp e
  cases e2
  refine⟨aR (List.mem_range.mp hx),?_⟩
  rw [cI]at hy
  cases ho:owner[j]? with
  | none=>rw [ho]at hy;cases hy
  | some o=>rw [ho]at hy;have:o=some i:=hy;rw [this]
 ·rintro⟨h1,h2⟩
  exact⟨j,List.mem_range.mpr (Nat.lt_succ_of_le h1),by rw [cI,h2];rfl⟩
theorem zfX (m:Nat)(owner:Array (Option Nat)):((liveL m owner).map (·.1)).Pairwise (· < ·):=by
 unfold liveL
 rw [List.map_filterMap]
 have:∀ n,((List.range n).filterMap λ j=>Option.map (·.1) ((owner.getD j none).map λ i=>(j,i))).Pairwise (· < ·)/\∀ x∈((List.range n).filterMap λ j=>Option.map (·.1) ((owner.getD j none).map λ i=>(j,i))),x < n:=by
  intro n
  induction n with
  | zero=>exact⟨.nil,by simp⟩
  | succ n ih =>
   rw [List.range_succ,List.filterMap_append]
   cases hn:owner.getD n none with
   | none =>
    simp only [List.filterMap_cons,List.filterMap_nil,hn,Option.map_none,cM]
    exact⟨ih.1,λ x hx=>bf (ih.2 x hx)⟩
   | some i =>
    simp only [List.filterMap_cons,List.filterMap_nil,hn,Option.map_some]
    refine⟨List.pairwise_append.mpr ⟨ih.1,by simp,λ a ha b hb=>by rw [aZ]at hb;rw [hb];exact ih.2 a ha⟩,λ x hx=>?_⟩
    rcases List.mem_append.mp hx with a | a
    ·exact bf (ih.2 x a)
    ·rw [aZ]at a;rw [a];exact bw _
 exact(this (m+1)).1
theorem zhn {m:Nat}{hs:List Int}{js:List Nat}{owner:Array (Option Nat)}(L:LC m hs js owner):(liveL m owner).Perm js.zipIdx:=by
 have nd1:(liveL m owner).Nodup:=List.Pairwise.of_map (·.1) (λ a b h e=>by subst e;exact bj _ h) (zfX m owner)
 have nd2:js.zipIdx.Nodup:=by
  refine List.Pairwise.of_map (S:=(· ≠ ·)) (·.1) (λ a b h e=>by subst e;exact h rfl) ?_
  rw [List.zipIdx_map_fst];exact L.nd
 refine(List.perm_ext_iff_of_nodup nd1 nd2).mpr λ ⟨j,i⟩=>?_
 rw [zfF,List.mem_zipIdx_iff_getElem?,L.own]
 exact⟨λ h=>h.2.1,λ h=>⟨L.le _ (ap h),h,L.le _ (ap h)⟩⟩
theorem zcE {α β:Type}{f:α->Option β}{g:α->β}:∀ {l:List α},(∀ x∈l,f x=some (g x))->l.filterMap f=l.map g
 | [],_=>rfl
 | x :: l,h=>by rw [List.filterMap_cons,h x (.head _),aH,zcE λ y hy=>h y (.tail _ hy)]
noncomputable def entOf (Z:List Ent)(i:Nat):Int × Value:=((Z[i]?).map (·.2)).getD (0,.none)
theorem zgs (Z:List Ent):(List.range Z.length).map (entOf Z)=Z.map (·.2):=by
 refine List.ext_getElem (by simp) λ i h1 h2=>?_
 have hi:i < Z.length:=by simpa using h1
 rw [List.getElem_map,List.getElem_map,List.getElem_range]
 unfold entOf
 rw [al hi];rfl
theorem HT.relaid2 {m m':Nat}{Z:List Ent}{t:SetTable}{es:Array (Int × Value)}(H:HT m Z t es)(hm:Msk m')(hl:Z.length<=m'){wanted:Nat}(hw:SetTable.sizeAbove wanted - 1=m') :
  ∃ Z' t' order,t.relaid (es.map (·.1)) wanted=some (t',order)/\(Z'.map (·.2)).Perm (Z.map (·.2))/\HT m' Z' t' (order.filterMap (es[·]?))/\t'.led=t.led/\t'.plain=t.plain/\order.toList.Perm (List.range Z.length):=by
 have ehs:es.map (·.1)=(Z.map (·.2.1)).toArray:=by rw [H.es];simp
 refine E22 (zgr hm (hs:=Z.map (·.2.1)) (by rw [ah];exact aQ (‹_›))) λ js owner e L=>?_
 have hP:=zhn L
 have hlen:js.length=Z.length:=by rw [L.len,ah]
 have inl:∀ p∈liveL m' owner,js[p.2]? = some p.1/\p.2 < Z.length:=λ p hp=>by
  have:=List.mem_zipIdx_iff_getElem?.mp (hP.mem_iff.mp hp)
  exact⟨this,by rw [<- hlen];exact(List.getElem?_eq_some_iff.mp this).1⟩
 have ent:∀ p∈liveL m' owner,es[p.2]? = some (entOf Z p.2):=λ p hp=>by
  have hi:=(inl p hp).2
  rw [H.es,List.getElem?_toArray,aD]
  unfold entOf
  rw [al hi];rfl
 have ees:(((liveL m' owner).map (·.2)).toArray.filterMap (es[·]?))=(((liveL m' owner).map λ p=>(p.1,entOf Z p.2)).map (·.2)).toArray:=by
  apply Array.toList_inj.mp
  rw [Array.toList_filterMap]
  show List.filterMap (λ i=>es[i]?) ((liveL m' owner).map (·.2))=_
  rw [List.filterMap_map,bv];exact zcE (g:=λ p:Nat × Nat=>entOf Z p.2) ent
 have mfst:∀ j,j∈((liveL m' owner).map λ p=>(p.1,entOf Z p.2)).map (·.1)↔j∈js:=λ j=>by
  rw [bv]
  have e1:((λ x:Ent=>x.1) ∘ λ p:Nat × Nat=>(p.1,entOf Z p.2))=(·.1):=rfl
  rw [e1,(hP.map (·.1)).mem_iff,List.zipIdx_map_fst]
 refine⟨(liveL m' owner).map λ p=>(p.1,entOf Z p.2),{ mask:=m',place:=((liveL m' owner).map (·.1)).toArray,dummies:=#[],finger:=t.finger,led:=t.led,moves:=t.movedTo m',plain:=t.plain },((liveL m' owner).map (·.2)).toArray,?_,?_,?_,rfl,rfl,?_⟩
 ·unfold SetTable.relaid SetTable.laid
  rw [hw,ehs,e];rfl
 ·rw [bv]
  have e1:((λ x:Ent=>x.2) ∘ λ p:Nat × Nat=>(p.1,entOf Z p.2))=(entOf Z) ∘ (·.2):=rfl
  rw [e1,<- bv,<- zgs]
  refine List.Perm.map _ ?_
  have:=hP.map (·.2)
  rw [List.zipIdx_map_snd,hlen,<- List.range_eq_range']at this
  exact this
 ·refine⟨hm,rfl,?_,rfl,ees,?_,λ p hp=>?_,λ p hp=>?_⟩
  ·rw [bv];rfl
  ·rw [bv];exact zfX m' owner
  ·refine E12 (List.mem_map.mp hp) λ q hq q9=>?_;subst q9
   exact(zfF.mp hq).1
  ·refine E12 (List.mem_map.mp hp) λ q hq q9=>?_;subst q9
   obtain⟨h1,h2⟩:=inl q hq
   have hh:(Z.map (·.2.1))[q.2]? = some (entOf Z q.2).1:=by
    rw [aD]
    unfold entOf
    rw [al h2];rfl
   refine E12 (L.reach q.2 q.1 _ h1 hh) λ k a1 a2=>?_
   exact⟨k,a1,λ k' hk'=>(mfst _).mpr (a2 k' hk')⟩
 ·have:=hP.map (·.2)
  rw [List.zipIdx_map_snd,hlen,<- List.range_eq_range']at this
  exact this
theorem HT.relaid {m m':Nat}{Z:List Ent}{t:SetTable}{es:Array (Int × Value)}(H:HT m Z t es)(hm:Msk m')(hl:Z.length<=m'){wanted:Nat}(hw:SetTable.sizeAbove wanted - 1=m') :
  ∃ Z' t' order,t.relaid (es.map (·.1)) wanted=some (t',order)/\(Z'.map (·.2)).Perm (Z.map (·.2))/\HT m' Z' t' (order.filterMap (es[·]?))/\t'.led=t.led/\t'.plain=t.plain:=by
 refine E36 (H.relaid2 hm hl hw) λ Z' t' order a b c d e _=>?_
 exact⟨Z',t',order,a,b,c,d,e⟩
/-! a set of tuples -/
section
variable {prog:Program}{w:World}{A:Around}{E:Value->Shared->Prop}{s:Shared}
theorem zgl (n:Nat){v:Value}(h:carriedByValue v=true):ofAClassStatement n v=pure false:=by
 cases v with
 | ref a=>simp [carriedByValue]at h
 | _=>cases n <;> rfl
theorem zdH {ks:List KA}{b:Nat}{Q:Bool->Shared->Prop}(hk:IsTupleKey (kaKind prog w) s.heap ks b)(h:Q false s):wpAny (model prog w) A (ofAClassStatement 8 (.ref b)) Q E s:=by
 have hT:=hk.typeIs
 refine E34 (hk) λ o items n ho _ hd hi=>?_
 unfold ofAClassStatement
 refine ag (wpAny_typeOf hT ?_)
 dsimp only
 refine wpAny_ite_true rfl ?_
 refine ag (ai ?_)
 refine bm rfl ?_
 refine ag (wpAny_seqItems ho hd ?_)
 dsimp only
 refine ag ?_
 show wpAny _ _ (forIn items _ _) _ _ s
 rw [<- Array.forIn_toList]
 refine wpAny_forIn_list _ (λ rest r s'=>r.1=none/\s'=s/\∀ v∈rest,carriedByValue v=true) _ ?_ ?_ _ _ ⟨rfl,rfl,hi.byValue⟩
 ·intro v rest r s' q0;refine E03 (q0) λ hr q9 hall=>?_;clear q0;subst q9
  rw [zgl _ (hall v List.mem_cons_self)]
  refine ag (ai ?_)
  refine bm rfl ?_
  exact ai ⟨rfl,rfl,λ u hu'=>hall u (List.mem_cons_of_mem _ hu')⟩
 ·rintro⟨r1,r2⟩;intro s' q0;refine E03 (q0) λ hr q9 _=>?_;clear q0;subst q9
  simp only at hr
  subst hr
  exact ai h
theorem zhI {ks:List KA}{b:Nat}{stored:List Value}{Q:Bool->Shared->Prop}(hk:IsTupleKey (kaKind prog w) s.heap ks b)(hs:∀ v∈stored,∃ k c,v = .ref c/\IsTupleKey (kaKind prog w) s.heap k c)(h:Q false s) :
  wpAny (model prog w) A (searchCouldBeSeen (.ref b) stored) Q E s:=by
 unfold searchCouldBeSeen
 refine ag ?_
 refine wpAny_forIn_list _ (λ rest r s'=>r.1=none/\s'=s/\∀ v∈rest,∃ k c,v = .ref c/\IsTupleKey (kaKind prog w) s.heap k c) _ ?_ ?_ _ _ ⟨rfl,rfl,hs⟩
 ·intro v rest r s' q0;refine E03 (q0) λ hr q9 hall=>?_;clear q0;subst q9
  refine E22 (hall v List.mem_cons_self) λ k c q9 hc=>?_;subst q9
  have tl:∀ u∈rest,∃ k c,u = .ref c/\IsTupleKey (kaKind prog w) s'.heap k c:=λ u hu'=>hall u (List.mem_cons_of_mem _ hu')
  dsimp only
  refine cE (λ _=>ai ⟨rfl,rfl,tl⟩) λ _=>?_
  refine ag (wpAny_eqIsQuiet_tuple hk ?_)
  refine bm rfl ?_
  refine ag (wpAny_eqIsQuiet_tuple hc ?_)
  refine bm rfl ?_
  refine ag (zdH hk ?_)
  refine bm rfl ?_
  refine ag (zdH hc ?_)
  refine bm rfl ?_
  exact ai ⟨rfl,rfl,tl⟩
 ·rintro⟨r1,r2⟩;intro s' q0;refine E03 (q0) λ hr q9 _=>?_;clear q0;subst q9
  simp only at hr
  subst hr
  exact ai h
noncomputable def hT (w:World)(ks:List KA):Int:=reduceHash (Builtin.Tuple.tupleHashOf (ks.map (hashA w)))
structure TS (prog:Program)(w:World)(h:Heap)(a m:Nat)(Z:List Ent)(T:List (List KA × Nat))(es:Array (Int × Value))(ep:Nat)(t:SetTable):Prop where
 at_:h.get? a=some { cls:=.type "set",dict:=none,data:=.set es ep t }
 ht:HT m Z t es
 led:t.led = !byText w
 plain:t.plain=T.isEmpty
 perm:(Z.map (·.2)).Perm (T.map λ q=>(hT w q.1,Value.ref q.2))
 key:∀ q∈T,IsTupleKey (kaKind prog w) h q.1 q.2
 nd:(T.map (·.1)).Nodup
variable {a m ep:Nat}{Z:List Ent}{T:List (List KA × Nat)}{es:Array (Int × Value)}{t:SetTable}
theorem TS.len (S:TS prog w s.heap a m Z T es ep t):Z.length=T.length:=by have:=S.perm.length_eq;simpa using this
theorem TS.fits (S:TS prog w s.heap a m Z T es ep t)(hl:T.length<=m):t.fits es.size=true:=by
 unfold SetTable.fits SetTable.fill
 have h1:=S.ht.size
 rw [h1,S.ht.dum,S.ht.es,S.ht.mask,S.len]
 simp [S.len];exact hl
theorem TS.ent (S:TS prog w s.heap a m Z T es ep t){p:Ent}(hp:p∈Z):∃ q∈T,p.2.1=hT w q.1/\p.2.2 = .ref q.2:=by
 have:=S.perm.mem_iff.mp (List.mem_map.mpr ⟨p,hp,rfl⟩)
 refine E12 (List.mem_map.mp this) λ q hq e=>?_
 exact⟨q,hq,(cw Prod.fst e).symm,(cw Prod.snd e).symm⟩
theorem TS.of (S:TS prog w s.heap a m Z T es ep t){q:List KA × Nat}(hq:q∈T):∃ p∈Z,p.2.1=hT w q.1/\p.2.2 = .ref q.2:=by
 have:=S.perm.mem_iff.mpr (List.mem_map.mpr ⟨q,hq,rfl⟩)
 obtain⟨p,hp,e⟩:=List.mem_map.mp this
 exact⟨p,hp,cw Prod.fst e,cw Prod.snd e⟩
theorem zhk (x:Value){Q:Bool->Shared->Prop}{b:Nat}(h:Q true s):wpAny (model prog w) A (isSame (.ref b) (.ref b)) Q E s:=by
 unfold isSame
 dsimp only
 refine wpAny_ite_true (cx ((by simp))) ?_
 exact ai h
set_option maxHeartbeats 8000000 in
theorem zfy (hu:A.units < cLine){ks:List KA}{b K:Nat}{Q:SetFound->Shared->Prop}(S:TS prog w s.heap a m Z T es ep t)(hl:T.length<=m)(hk:IsTupleKey (kaKind prog w) s.heap ks b)(F:First m (hT w ks) (· ∈ Z.map (·.1)) K)(hK:K < 10 * SetTable.turns m)
  (yes:ks∈T.map (·.1)->Q (.there none) s) (no:ks∉T.map (·.1)->Q (.free (pj m (hT w ks) K) false) s) :
  ∀ fuel k (stand:Option SetTable.Probe),k<=K->K - k < fuel->stand.getD (t.probeStart (hT w ks))=itr m (hT w ks) k->(∀ k',k' < k->∀ q∈T,∀ p∈Z,p.1=pj m (hT w ks) k'->p.2.2 = .ref q.2->q.1≠ks) ->
   wpAny (model prog w) A (setSearchFrom a (.ref b) (hT w ks) true fuel stand) Q E s:=by
 intro fuel
 induction fuel with
 | zero=>intro k _ _ h;exact absurd h (cG _)
 | succ fuel ih =>
  intro k stand hkK hf hst hno
  refine ag (cu S.at_ rfl (S.fits hl) ?_)
  dsimp only
  have hgw:t.gaveWay=false:=by
   unfold SetTable.gaveWay
   rw [S.ht.mask]
   rcases S.ht.msk with e | e <;> rw [e] <;> decide
  refine bm (bK (by rw [hgw];exact Bool.false_ne_true)) ?_
  generalize hpr:SetTable.probe t _ _ _=r
  have M:Meets m Z (hT w ks) K k r:=by
   rw [<- hpr]
   unfold SetTable.probe
   rw [hst,S.ht.mask]
   refine S.ht.go (λ i p hp=>?_) F _ k hkK (by exact nnG ‹_›)
   show (es[i]?.map (·.1)).getD 0=_
   rw [S.ht.es,List.getElem?_toArray,aD,hp];rfl
  cases M with
  | cand k1 i p h1 h2 h3 h4 h5 h6 =>
   dsimp only
   refine E13 (S.ent (ap h3)) λ q hq e1 e2=>?_
   have hkq:=S.key q hq
   have hes:es[i]? = some (hT w ks,.ref q.2):=by
    rw [S.ht.es,List.getElem?_toArray,aD,h3,<- h5,<- e2];rfl
   have hsl:t.slot (pj m (hT w ks) k1) = .live i:=by rw [<- h4];exact S.ht.slot_live h3
   have hsm:t.sameMemory t.moves t.mask=some true:=by unfold SetTable.sameMemory;rw [aB (by simp)]
   have nx:q.1≠ks->∀ k',k' < k1+1->∀ q'∈T,∀ p'∈Z,p'.1=pj m (hT w ks) k'->p'.2.2 = .ref q'.2->q'.1≠ks:=λ hne k' hk' q' hq' p' hp' a1 a2=>by
    rcases bN k' k with c | c
    ·exact hno k' c q' hq' p' hp' a1 a2
    ·rcases bN k' k1 with d | d
     ·have hh:=h6 k' c d p' hp' a1
      intro e
      refine E13 (S.ent hp') λ q2 hq2 b1 b2=>?_
      have:q2.2=q'.2:=by rw [b2]at a2;exact Value.ref.inj a2
      have hkk:=(S.key q2 hq2).inj (this▸S.key q' hq')
      exact hh (by rw [b1,hkk,e])
     ·have:k'=k1:=by exact Nat.eq_of_le_of_lt_succ ‹_› ‹_›
      subst this
      have hpp:p'=p:=by
       obtain⟨i',hi',e3⟩:=bH hp'
       have g1:Z[i']? = some p':=by rw [al hi',e3]
       have s1:=S.ht.slot_live g1
       rw [a1,hsl]at s1
       cases s1
       rw [g1]at h3;cases h3;rfl
      rw [hpp,e2]at a2
      have:q.2=q'.2:=Value.ref.inj a2
      have hkk:=hkq.inj (this▸S.key q' hq')
      rw [<- hkk];exact hne
   rw [hes]
   refine(λ tail=>cE (λ hc=>ag (zhI hk (λ v hv=>?_) tail)) (λ hc=>tail)) ?_
   ·obtain⟨e,he,rfl⟩:=List.mem_map.mp hv
    have he:e∈es:=by
     have:=Array.mem_toList_iff.mp he
     exact(Array.mem_filter.mp this).1
    rw [S.ht.es]at he
    obtain⟨p',hp',e3⟩:=List.mem_map.mp (List.mem_toArray.mp he)
    refine E13 (S.ent hp') λ q2 hq2 b1 b2=>?_
    exact⟨q2.1,q2.2,by rw [<- e3];exact b2,S.key q2 hq2⟩
   ·show wpAny _ _ (holding _ _ >>= _) _ _ _
    refine ag (aP (wpAny_eqBool_tuple hu hkq hk ?_))
    refine ag (cu S.at_ rfl (S.fits hl) ?_)
    dsimp only
    by_cases hq2:q.1=ks
    ·rw [cx hq2]
     exact ai (yes (List.mem_map.mpr ⟨q,hq,hq2⟩))
    ·rw [bK hq2,hsm,hsl]
     dsimp only
     rw [aw (by decide),aB rfl]
     dsimp only
     rw [hes]
     dsimp only
     refine ag (zhk (.ref q.2) ?_)
     rw [aB rfl]
     refine ag (ai ?_)
     dsimp only
     refine bm rfl ?_
     exact ih (k1+1) _ h2 (by exact nnF ‹_› ‹_› ‹_›) rfl (nx hq2)
  | empty h6 =>
   dsimp only
   refine ai (no λ hm=>?_)
   obtain⟨q,hq,e⟩:=List.mem_map.mp hm
   refine E13 (S.of hq) λ p hp b1 b2=>?_
   rw [e]at b1
   refine E12 (S.ht.met hp (b1▸F)) λ k' c1 c2=>?_
   rw [b1]at c2
   rcases bN k' k with c | c
   ·exact hno k' c q hq p hp c2.symm b2 e
   ·exact h6 k' c c1 p hp c2.symm b1
end
/-! a tuple put into a set -/
noncomputable def Rm (m n:Nat):Prop:=(m=7/\n<=4)∨(m=31/\n<=18)
noncomputable def TSet (prog:Program)(w:World)(h:Heap)(a:Nat)(T:List (List KA × Nat)):Prop:=∃ m Z es ep t,TS prog w h a m Z T es ep t/\Rm m T.length
theorem Rm.le {m n:Nat}(h:Rm m n):n<=m:=by rcases h with ⟨rfl,h⟩ | ⟨rfl,h⟩ <;> lia
section
variable {prog:Program}{w:World}{A:Around}{E:Value->Shared->Prop}{s:Shared}{a:Nat}{T:List (List KA × Nat)}
theorem ziz {x:Str}{r:List KA}{b:Nat}{Q:Bool->Shared->Prop}(hk:IsTupleKey (kaKind prog w) s.heap (.s x :: r) b)(h:Q false s):wpAny (model prog w) A (hashByValue 8 (.ref b)) Q E s:=by
 have hT:=hk.typeIs
 refine E34 (hk) λ o items n ho _ hd hi=>?_
 unfold hashByValue
 refine ag (wpAny_specialOf hT F.slot_tuple_hash.lookup ?_)
 show wpAny _ _ (seqItems? (.ref b) >>= _) _ _ s
 refine ag (wpAny_seqItems ho hd ?_)
 refine ag ?_
 show wpAny _ _ (forIn items _ _) _ _ s
 rw [<- Array.forIn_toList]
 generalize items.toList=vs at hi
 cases hi with
 | cons h1 h2 =>
  have h1':KA.isB (.s x) v=true:=h1
  rcases KA.shape h1' with ⟨y,t,e1,rfl⟩ | ⟨n',t,e1,rfl⟩
  ·rw [List.forIn_cons]
   refine ag ?_
   show wpAny _ _ (hashByValue 7 (.str y t) >>= _) _ _ _
   have e:hashByValue 7 (.str y t)=pure false:=rfl
   rw [e]
   refine ag (ai ?_)
   simp only [Bool.not_false,if_true]
   refine ai ?_
   dsimp only
   exact ai (ai h)
  ·cases e1
theorem ziG {h h':Heap}{o':Obj}{ks:List KA}{b:Nat}(ho:h.get? a=some o')(hc:o'.cls = .type "set")(k:Heap.SameBut a h h')(x:IsTupleKey (kaKind prog w) h ks b):IsTupleKey (kaKind prog w) h' ks b:=by
 refine E33 (x) λ o items n hb hcl r=>?_
 refine⟨o,items,n,(k.2 b λ e=>?_).trans hb,hcl,r⟩
 subst e
 rw [ho]at hb;cases hb
 rw [hc]at hcl
 exact absurd hcl (by decide)
theorem HT.off {m:Nat}{Z:List Ent}{t:SetTable}{es:Array (Int × Value)}(H:HT m Z t es):HT m Z { t with plain:=false } es:=⟨H.msk,H.mask,H.place,H.dum,H.es,H.inc,H.le,H.reach⟩
theorem HT.fits {m:Nat}{Z:List Ent}{t:SetTable}{es:Array (Int × Value)}(H:HT m Z t es)(hl:Z.length<=m):t.fits es.size=true:=by
 unfold SetTable.fits SetTable.fill
 rw [H.size,H.dum,H.es,H.mask]
 simp;exact hl
theorem zi6 {m ep:Nat}{Z:List Ent}{t:SetTable}{es:Array (Int × Value)}{Q:Unit->Shared->Prop}(ho:s.heap.get? a=some { cls:=.type "set",dict:=none,data:=.set es ep t })(H:HT m Z t es)(hl:Z.length<=m){wanted m':Nat}(hm:Msk m')(hl':Z.length<=m')(hw:SetTable.sizeAbove wanted - 1=m')(hz:SetTable.sizeAbove wanted<=100)
  (q:∀ h' Z' es' ep' t',Heap.SameBut a s.heap h'->h'.get? a=some { cls:=.type "set",dict:=none,data:=.set es' ep' t' }->HT m' Z' t' es'->(Z'.map (·.2)).Perm (Z.map (·.2))->t'.led=t.led->t'.plain=t.plain->Q () { s with heap:=h' }) :
  wpAny (model prog w) A (setRelay a wanted) Q E s:=by
 refine E35 (H.relaid hm hl' hw) λ Z' t' order e hP H' e1 e2=>?_
 have hsz:(order.filterMap (es[·]?)).size=es.size:=by
  rw [H'.es,H.es,bO,bO];exact hP.length_eq
 unfold setRelay
 refine ag (cu ho rfl (H.fits hl) ?_)
 dsimp only
 have hzl:¬ SetTable.sizeAbove wanted > sizeLine:=by
  have:100<=sizeLine:=by decide
  exact cH (nT ‹_› ‹_›)
 rw [aw hzl,e]
 refine ag ?_
 show wpAny (model prog w) A (if ((order.filterMap (es[·]?)).size != es.size)=true then _ else pure (order.filterMap (es[·]?),t')) _ _ _
 refine bm (bK ((by rw [hsz];simp))) ?_
 refine ai ?_
 dsimp only
 refine zbE ho (by rw [hsz,H.es,bO,ah];have:100<=sizeLine:=(by decide);rcases H.msk with rfl | rfl <;> lia) λ h' k1 k2=>q h' Z' _ _ t' k1 k2 H' hP e1 e2
theorem zg2 {m ep:Nat}{Z':List Ent}{t t1:SetTable}{es es1:Array (Int × Value)}{T':List (List KA × Nat)}{n:Nat}{Q:Bool->Shared->Prop}(ho:s.heap.get? a=some { cls:=.type "set",dict:=none,data:=.set es ep t })(H1:HT m Z' t1 es1)(hled:t1.led = !byText w)(hpl:t1.plain=false)(hP:(Z'.map (·.2)).Perm (T'.map λ q=>(hT w q.1,Value.ref q.2)))
  (hk:∀ q∈T',IsTupleKey (kaKind prog w) s.heap q.1 q.2) (hnd:(T'.map (·.1)).Nodup) (hn:n=T'.length) (h1:1<=n) (hrm:(m=7/\n<=5)∨(m=31/\n<=18))
  (q:∀ h',Heap.SameBut a s.heap h'->TSet prog w h' a T'->Q true { s with heap:=h' }) :
  wpAny (model prog w) A (do
   storeSet a es1 t1
   if (!false && t1.tooFull)=true then do
    setRelay a (SetTable.grown n)
    pure true
   else pure true) Q E s:=by
 have hZl:Z'.length=n:=by have:=hP.length_eq;rw [ah,ah]at this;exact Eq.trans ‹_› (bo ‹_›)
 have hZm:Z'.length<=m:=by rcases hrm with ⟨rfl,h⟩ | ⟨rfl,h⟩ <;> lia
 have hne:T'.isEmpty=false:=by cases T' with | nil=>simp at hn;exact absurd (nT ‹_› (aG ‹_›)) (bj _) | cons _ _=>rfl
 refine ag (zbE ho (by rw [H1.es,bO,ah];have:100<=sizeLine:=(by decide);rcases H1.msk with rfl | rfl <;> lia) λ h1' k1 k2=>?_)
 have hk1:∀ q∈T',IsTupleKey (kaKind prog w) h1' q.1 q.2:=λ q hq=>ziG ho rfl k1 (hk q hq)
 have hfull:t1.tooFull=decide (m * 3<=n * 5):=by
  unfold SetTable.tooFull SetTable.fill
  rw [H1.size,H1.dum,H1.mask,hZl];simp
 rw [hfull]
 refine cE (λ hc=>?_) (λ hc=>?_)
 ·have hc:m * 3<=n * 5:=by simpa using hc
  have h5:m=7/\n=5:=by rcases hrm with ⟨rfl,h⟩ | ⟨rfl,h⟩ <;> lia
  obtain⟨rfl,rfl⟩:=h5
  refine ag (zi6 (s:={ s with heap:=h1' }) (m':=31) k2 H1 hZm (.inr rfl) (by exact nT ‹_› (by decide)) (by decide) (by decide) λ h2 Z2 es2 ep2 t2 k3 k4 H2 hP2 e1 e2=>ai ?_)
  refine q h2 (k1.trans k3) ⟨31,Z2,es2,ep2,t2,⟨k4,H2,e1.trans hled,?_,hP2.trans hP,λ q hq=>ziG k2 rfl k3 (hk1 q hq),hnd⟩,.inr ⟨rfl,by lia⟩⟩
  rw [hne];exact e2.trans hpl
 ·have hc:¬ m * 3<=n * 5:=by simpa using hc
  refine ai (q h1' k1 ⟨m,Z',es1,_,t1,⟨k2,H1,hled,by rw [hne];exact hpl,hP,hk1,hnd⟩,?_⟩)
  rcases hrm with ⟨rfl,h⟩ | ⟨rfl,h⟩
  ·exact .inl ⟨rfl,by lia⟩
  ·exact .inr ⟨rfl,by exact nT (aG (bo ‹_›)) ‹_›⟩
set_option maxHeartbeats 8000000 in
theorem zfS (hu:A.units < cLine){x:Str}{r:List KA}{b:Nat}{Q:Bool->Shared->Prop}(S:TSet prog w s.heap a T)(hl:T.length<=17)(hk:IsTupleKey (kaKind prog w) s.heap (.s x :: r) b)
  (q:∀ b' h' t',Heap.SameBut a s.heap h'->TSet prog w h' a (if (.s x :: r)∈T.map (·.1)then T else T ++ [(.s x :: r,b)])->Q b' { s with heap:=h',toks:=t' }) :
  wpAny (model prog w) A (setAdd a (.ref b)) Q E s:=by
 refine E52 (S) λ m Z es ep t S hr=>?_
 unfold setAdd
 refine aP (ag (wpAny_pyHash_tuple hu hk ?_))
 have eh:tupleKeyHash (kaKind prog w) (.s x :: r)=hT w (.s x :: r):=rfl
 rw [eh]
 generalize htk:s.toks+((KA.s x :: r).length+1)=tk
 have S1:TS prog w ({ s with toks:=tk }:Shared).heap a m Z T es ep t:=S
 have hk1:IsTupleKey (kaKind prog w) ({ s with toks:=tk }:Shared).heap (.s x :: r) b:=hk
 refine E12 (S.ht.first (by rw [S.len];exact hr.le) (hT w (.s x :: r))) λ K hK F=>?_
 unfold setAddHashed setAddHashedIn
 refine aP (ag (cu S1.at_ rfl (S1.fits hr.le) ?_))
 dsimp only
 refine bm rfl ?_
 refine ag ?_
 unfold setSearch
 refine zfy hu S1 hr.le hk1 F hK (λ hy=>?_) (λ hn=>?_) 100000 0 none (bR _) ?_ ?_ (λ k' hk'=>absurd hk' (cG _))
 ·dsimp only
  refine ai (q false s.heap tk (Heap.SameBut.refl a s.heap) ?_)
  rw [aB hy]
  exact⟨m,Z,es,ep,t,S,hr⟩
 ·dsimp only
  refine ag (cu S1.at_ rfl (S1.fits hr.le) ?_)
  dsimp only
  refine E12 (S.ht.put (v:=.ref b) F) λ Z' hP H'=>?_
  have hesz:es.size+1=T.length+1:=by rw [S.ht.es,bO,ah,S.len]
  rw [hesz]
  have hP':(Z'.map (·.2)).Perm ((T ++ [(KA.s x :: r,b)]).map λ q=>(hT w q.1,Value.ref q.2)):=by
   refine(hP.map (·.2)).trans ?_
   rw [aH,ax]
   exact(List.Perm.cons _ S.perm).trans (List.perm_append_singleton _ _).symm
  have hk':∀ q∈T ++ [(KA.s x :: r,b)],IsTupleKey (kaKind prog w) ({ s with toks:=tk }:Shared).heap q.1 q.2:=λ q hq=>by
   rcases List.mem_append.mp hq with h | h
   ·exact S.key q h
   ·rw [aZ]at h;subst h;exact hk
  have hnd':((T ++ [(KA.s x :: r,b)]).map (·.1)).Nodup:=by
   rw [ax,List.nodup_append]
   exact⟨S.nd,by simp,λ a ha b' hb e=>by
    have hb:b'=KA.s x :: r:=by simpa using hb
    rw [e,hb]at ha;exact hn ha⟩
  have hrm:(m=7/\T.length+1<=5)∨(m=31/\T.length+1<=18):=by
   rcases hr with ⟨rfl,h⟩ | ⟨rfl,h⟩
   ·exact .inl ⟨rfl,by exact br (‹_›)⟩
   ·exact .inr ⟨rfl,by exact br (‹_›)⟩
  have fin:∀ h',Heap.SameBut a ({ s with toks:=tk }:Shared).heap h'->TSet prog w h' a (T ++ [(KA.s x :: r,b)])->Q true { s with heap:=h',toks:=tk }:=λ h' k1 k2=>q true h' tk k1 (by rw [aw hn];exact k2)
  refine cE (λ hc=>ag (ziz hk1 ?_)) (λ hc=>ag (ai ?_))
  ·rw [aw (by decide)]
   exact zg2 S1.at_ H'.off S.led rfl hP' hk' hnd' (by simp) (aY _ _) hrm fin
  ·rw [aB rfl]
   exact zg2 S1.at_ H' S.led (by simpa using hc) hP' hk' hnd' (by simp) (aY _ _) hrm fin
 ·have:SetTable.turns m<=50:=by unfold SetTable.turns;rcases S.ht.msk with e | e <;> rw [e] <;> decide
  exact nus ‹_› ‹_›
 ·rw [Option.getD_none,zha,S.ht.mask]
end
theorem HT.ok {m:Nat}{Z:List Ent}{t:SetTable}{es:Array (Int × Value)}(H:HT m Z t es)(hl:Z.length<=m):t.ok es.size=true:=by
 unfold SetTable.ok SetTable.fill
 rw [H.rising,H.size,H.dum,H.es,H.mask]
 have h1:t.place.all (λ x=>decide (x<=m))=true:=by
  rw [H.place,List.all_toArray,List.all_eq_true]
  intro x hx
  obtain⟨p,hp,rfl⟩:=List.mem_map.mp hx
  exact cx (H.le p hp)
 have h2:SetTable.rising (#[]:Array Nat)=true:=rfl
 have h3:t.place.all (λ x=>decide (x<=m)) 0 Z.length=true:=by rw [<- H.size];exact h1
 simp [h1,h2,h3,hl]
theorem HT.init (m:Nat)(hm:Msk m)(t:SetTable)(h1:t.mask=m)(h2:t.place = #[])(h3:t.dummies = #[]):HT m [] t #[] :=
 ⟨hm,h1,h2,h3,rfl,.nil,(λ p h=>by cases h),(λ p h=>by cases h)⟩
/-! sets of numbers,more of them -/
section
variable {m:Nat}{Z:List Ent}{t:SetTable}{es:Array (Int × Value)}
theorem HT.goN (H:HT m Z t es){hashAt:Nat->Int}{h:Int}(ha:∀ i,hashAt i≠h){K:Nat}(F:First m h (· ∈ Z.map (·.1)) K):∀ fuel k,k<=K->K - k < fuel->SetTable.probe.go t hashAt h fuel (itr m h k)=some (.empty (pj m h K) none):=by
 intro fuel
 induction fuel with
 | zero=>intro k _ h;exact absurd h (cG _)
 | succ fuel ih =>
  intro k hk hf
  unfold SetTable.probe.go
  rcases bN k K with q | q
  ·refine E22 (zjB (F.ahead k q)) λ i p h1 h2=>?_
   have e:t.slot (itr m h k).j = .live i:=by
    have:(itr m h k).j=p.1:=h2.symm
    rw [this];exact H.slot_live h1
   rw [e]
   dsimp only
   have adv1:t.advance (itr m h k)=itr m h (k+1):=by rw [zer,H.mask];rfl
   rw [adv1,aw (by simpa using ha i)]
   exact ih (k+1) q (by exact nnD ‹_› ‹_›)
  ·obtain rfl:k=K:=bV hk q
   have e:t.slot (itr m h k).j = .empty:=H.slot_empty F.free
   rw [e]
   dsimp only
   rw [zfw];rfl
theorem HT.freeSlot (H:HT m Z t es){h:Int}{K:Nat}(hK:K < 10 * SetTable.turns m)(F:First m h (· ∈ Z.map (·.1)) K):t.freeSlot h=some (pj m h K,false):=by
 unfold SetTable.freeSlot SetTable.probe
 rw [zha,H.mask,H.goN (hashAt:=λ _=>h+1) (by lia) F (10 * SetTable.turns m) 0 (bR _) (by assumption)]
 rfl
end
noncomputable def SIn (b:Bool)(T:List Int)(st:SSt):Prop:=∃ m Z,HT m Z st.2 st.1/\Rm m Z.length/\st.2.plain=true/\st.2.led=b/\(Z.map (·.2.1)).Perm T/\T.Nodup
theorem SIn.init (b:Bool):SIn b [] (#[],.fresh 0 0 b):=⟨7,[],.init 7 (.inl rfl) _ rfl rfl rfl,.inl ⟨rfl,by decide⟩,rfl,rfl,.nil,.nil⟩
theorem SIn.add {b:Bool}{T:List Int}{st:SSt}(S:SIn b T st)(hT:T.length<=17)(h:Int):SIn b (if h∈T then T else T ++ [h]) (sAdd st h):=by
 refine E26 (S) λ m Z H hr hp hled hP nd=>?_
 obtain⟨es,t⟩:=st
 dsimp only at H hp hled
 have hlen:Z.length=T.length:=by have:=hP.length_eq;rwa [ah]at this
 have hany:es.toList.any (λ e=>e.1 == h)=decide (h∈T):=by
  rw [H.es,bW,List.any_eq_true,decide_eq_true_iff,<- hP.mem_iff]
  simp only [List.mem_map,beq_iff_eq]
  constructor
  ·rintro⟨e,⟨p,hp,rfl⟩,e2⟩;exact⟨p,hp,e2⟩
  ·intro q0;refine E12 (q0) λ p hp e2=>?_;clear q0;exact⟨p.2,⟨p,hp,rfl⟩,e2⟩
 unfold sAdd
 dsimp only
 rw [hany]
 by_cases hm:h∈T
 ·rw [aB hm,aB (cx hm)]
  exact⟨m,Z,H,hr,hp,hled,hP,nd⟩
 ·rw [aw hm,aw (by simpa using hm)]
  have hZm:=hr.le
  refine E12 (H.first hZm h) λ K hK F=>?_
  refine E12 (H.put (v:=.none) F) λ Z' hP' H'=>?_
  have hz':Z'.length=T.length+1:=by rw [hP'.length_eq,bx,hlen]
  have hZm':Z'.length<=m:=by rcases hr with ⟨rfl,a⟩ | ⟨rfl,a⟩ <;> lia
  have hPT:(Z'.map (·.2.1)).Perm (T ++ [h]):=((hP'.map (·.2.1)).trans (List.Perm.cons _ hP)).trans (List.perm_append_singleton _ _).symm
  have ndT:(T ++ [h]).Nodup:=by
   rw [List.nodup_append]
   exact⟨nd,by simp,λ a ha c hc e=>by rw [aZ]at hc;rw [e,hc]at ha;exact hm ha⟩
  have hL:layNew t es h .none=(SetTable.insertAt es (t.put (pj m h K)).2 (h,.none),(t.put (pj m h K)).1,false,false):=by
   unfold layNew
   rw [H.freeSlot hK F]
   dsimp only
   have hf:=H'.fits hZm'
   unfold SetTable.orStandIn
   rw [aB hf,hf];rfl
  rw [hL]
  dsimp only
  have hpl:(t.put (pj m h K)).1.plain=t.plain:=rfl
  have hle:(t.put (pj m h K)).1.led=t.led:=rfl
  generalize (t.put (pj m h K)).1=t1 at H' hpl hle ⊢
  generalize SetTable.insertAt es (t.put (pj m h K)).2 (h,Value.none)=es1 at H' ⊢
  have hes1:es1.size=T.length+1:=by rw [H'.es,bO,ah,hz']
  have hfull:t1.tooFull=decide (m * 3<=(T.length+1) * 5):=by
   unfold SetTable.tooFull SetTable.fill
   rw [H'.size,H'.dum,H'.mask,hz'];simp
  rw [hfull,hes1]
  by_cases hc:m * 3<=(T.length+1) * 5
  ·rw [aB (by simpa using hc)]
   have h5:m=7/\T.length=4:=by rcases hr with ⟨rfl,a⟩ | ⟨rfl,a⟩ <;> lia
   obtain⟨rfl,h4⟩:=h5
   refine E36 (H'.relaid2 (m':=31) (.inr rfl) (by exact nT ‹_› (by decide)) (wanted:=SetTable.grown (T.length+1)) (by rw [h4];decide)) λ Z2 t2 order e hP2 H2 e1 e2 e3=>?_
   have hz2:Z2.length=5:=by have:=hP2.length_eq;rw [ah,ah]at this;simp only [*,an]
   have hR:relayAll t1 es1 (SetTable.grown (T.length+1))=(order.filterMap (es1[·]?),t2,false):=by
    unfold relayAll
    rw [e]
    dsimp only
    have c1:coversAll order es1.size=true:=by
     unfold coversAll
     rw [List.isPerm_iff,hes1,<- hz'];exact e3
    have c2:t2.fits (order.filterMap (es1[·]?)).size=true:=H2.fits (by simp_all)
    rw [c1,c2];rfl
   rw [hR]
   exact⟨31,Z2,H2,.inr ⟨rfl,by simp_all⟩,(e2.trans hpl).trans hp,(e1.trans hle).trans hled,by
    have:=hP2.map (·.1)
    rw [bv,bv]at this
    exact this.trans hPT,ndT⟩
  ·rw [aw (by simpa using hc)]
   refine⟨m,Z',H',?_,hpl.trans hp,hle.trans hled,hPT,ndT⟩
   rcases hr with ⟨rfl,a⟩ | ⟨rfl,a⟩
   ·exact .inl ⟨rfl,by exact nta ‹_› ‹_›⟩
   ·exact .inr ⟨rfl,by simp_all⟩
theorem SIn.fold {b:Bool}{D:List Int}(hD:D.length<=17):∀ (ns:List Int) {T:List Int} {st:SSt},SIn b T st->(∀ x∈T,x∈D)->(∀ x∈ns,x∈D)->∃ T',SIn b T' (ns.foldl sAdd st)/\(∀ x,x∈T'↔x∈T∨x∈ns)/\∀ x∈T',x∈D
 | [],T,st,S,hT,_=>⟨T,S,by simp,hT⟩
 | n :: ns,T,st,S,hT,hn=>by
  have nd:T.Nodup:=by refine E26 (S) λ _ _ _ _ _ _ _ nd=>?_;exact nd
  have hl:T.length<=17:=nT (nd.length_le_of_subset (λ x hx=>hT x hx)) hD
  obtain⟨T',a,c,d⟩:=SIn.fold hD ns (S.add hl n) (λ x hx=>by
   split at hx
   ·exact hT x hx
   ·rcases List.mem_append.mp hx with y | y
    ·exact hT x y
    ·rw [aZ]at y;rw [y];exact hn n (.head _)) λ x hx=>hn x (.tail _ hx)
  refine⟨T',a,λ x=>?_,d⟩
  rw [c]
  split
  ·rename_i hm
   rw [bD]
   constructor
   ·rintro(y | y)
    ·exact .inl y
    ·exact .inr (.inr y)
   ·rintro(y | y | y)
    ·exact .inl y
    ·rw [y];exact .inl hm
    ·exact .inr y
  ·rw [List.mem_append,aZ,bD,or_assoc]
theorem SIn.run {b:Bool}{D:List Int}(hD:D.length<=17){ns:List Int}(h:∀ x∈ns,x∈D):sOk b ns=true/\(sVals b ns).Nodup/\(sVals b ns).length<=17/\∀ x,x∈sVals b ns↔x∈ns:=by
 refine E13 (SIn.fold hD ns (SIn.init b) (by simp) h) λ T' S c d=>?_
 refine E26 (S) λ m Z H hr hp hled hP nd=>?_
 have e:sVals b ns=Z.map (·.2.1):=by
  unfold sVals
  have:(sRun b ns).1=(Z.map (·.2)).toArray:=H.es
  rw [this,bv];rfl
 have nd2:(sVals b ns).Nodup:=by rw [e];exact hP.nodup_iff.mpr nd
 have hm:∀ x,x∈sVals b ns↔x∈ns:=λ x=>by rw [e,hP.mem_iff,c];simp
 refine⟨?_,nd2,nT (nd2.length_le_of_subset λ x hx=>h x ((hm x).mp hx)) hD,hm⟩
 unfold sOk
 have h1:(sRun b ns).2.ok (sRun b ns).1.size=true:=H.ok hr.le
 have h2:(sRun b ns).2.plain=true:=hp
 have h3:(sRun b ns).2.led=b:=hled
 rw [h1,h2,h3];simp
theorem zhy:∀ n:Nat,n < 17->hashInt (n:Int)=n:=by decide
theorem zgD:∀ l:List Int,(∀ x∈l,∃ k:Nat,x=k)->∃ ns:List Nat,l=ns.map λ (k:Nat)=>(k:Int)
 | [],_=>⟨[],rfl⟩
 | x :: l,h=>by
  obtain⟨k,rfl⟩:=h x (.head _)
  obtain⟨ns,rfl⟩:=zgD l λ y hy=>h y (.tail _ hy)
  exact⟨k :: ns,rfl⟩
section
variable {X:Ctx}{l:Nat}{R:Nat->Option Obj}{env:Env}{ρ:Loc}{μ:Mem}
theorem CV.ssetN {ks:List Nat}{x:V}{Q:V->Mem->Prop}(h:ks.length<=100)(hk:∀ k∈ks,k < 17)(hx:RdL μ x (ks.map VN))(q:∀ ns:List Nat,ns.Pairwise (· < ·)->(∀ k,k∈ns↔k∈ks)->NewList μ (ns.map VN) Q) :
  CV X (l+1) R env ρ μ (.type "set") [x] λ y dl=>CV X (l+1) R env ρ dl (.builtin "sorted") [y] Q:=by
 obtain⟨g1,g2,g3,g4⟩:=SIn.run (b:=!byText X.w) (D:=(List.range 17).map λ (k:Nat)=>(k:Int)) (by simp) (ns:=ks.map λ (k:Nat)=>(k:Int)) (λ x hx=>by
  obtain⟨k,h1,rfl⟩:=List.mem_map.mp hx
  exact List.mem_map.mpr ⟨k,List.mem_range.mpr (hk k h1),rfl⟩)
 refine CV.set (ns:=ks.map λ (k:Nat)=>(k:Int)) (by rw [bv];exact hx) (λ n hn=>by
  obtain⟨k,h1,rfl⟩:=List.mem_map.mp hn
  exact zhy k (hk k h1)) (by rw [ah];unfold scanBound;exact nry ‹_›) g1 ?_
 refine CV.sortedSet (by exact aM ‹_› (by decide)) λ ns' p s=>?_
 have hm:∀ x,x∈ns'↔∃ k:Nat,k∈ks/\x=k:=λ x=>by
  rw [p.mem_iff,g4]
  constructor
  ·intro h
   obtain⟨k,hk,e⟩:=List.mem_map.mp h
   exact⟨k,hk,e.symm⟩
  ·rintro⟨k,hk,rfl⟩
   exact List.mem_map.mpr ⟨k,hk,rfl⟩
 obtain⟨ns,rfl⟩:=zgD ns' λ x hx=>by
  obtain⟨k,_,e⟩:=(hm x).mp hx
  exact⟨k,e⟩
 have hq:=q ns ?_ λ k=>?_
 ·rw [bv];exact hq
 ·have nd:(ns.map λ (k:Nat)=>(k:Int)).Nodup:=p.nodup_iff.mpr g2
  have nd':ns.Nodup:=List.Pairwise.of_map (λ (k:Nat)=>(k:Int)) (λ a b h e=>h (by rw [e])) nd
  rw [List.pairwise_map]at s
  exact List.Pairwise.imp₂ (λ a b h1 h2=>aX (Int.ofNat_le.mp h1) h2) s nd'
 ·have:=hm k
  simp only [List.mem_map]at this
  constructor
  ·intro h
   obtain⟨j,hj,e⟩:=this.mp ⟨k,h,rfl⟩
   have:k=j:=by exact Int.ofNat_inj.mp e
   rw [this];exact hj
  ·intro h
   obtain⟨j,hj,e⟩:=this.mpr ⟨k,h,rfl⟩
   have:j=k:=by exact Int.ofNat_inj.mp e
   rw [<- this];exact hj
end
theorem zc0 {n a:Nat}:root (List.range n) a=a:=by
 refine zak ?_
 by_cases h:a < n
 ·simp [List.getD,h]
 ·simp [List.getD,bT (l:=List.range n) (i:=a) (by simpa using h)]
section
variable {X:Ctx}{l:Nat}{μ:Mem}
variable {R:Nat->Option Obj}{env:Env}{ρ:Loc}{w:Nat}{S S':St}
theorem zed {ab:List Nat}{lots:List (List Nat)}{mg:List (Nat × Nat)}{Q:V->Mem->Prop}(U:UH μ ab lots mg)(hz:ab.length<=100)(q:Q (VN ab.length) μ):Cs X (l+1) (.ref zaO) [.ref (.h 2)] μ Q:=by
 refine zeG λ R L=>bZ<|cB (.builtin "len") (aj<|uA U .here<|aq<|cW (.ref U.hab) (sz (by rw [ah];exact nT (by assumption) (nB rfl))) ?_)
 rw [ah];exact q
theorem ziU {ab:List Nat}{lots:List (List Nat)}{mg:List (Nat × Nat)}{Q:V->Mem->Prop}(U:UH μ ab lots mg)(hz:ab.length<=100)(hl:lots.length=ab.length)(hf:μ (.lot lots.length)=none)
  (q:∀ dl,UH dl (ab ++ [ab.length]) (lots ++ [[lots.length]]) mg->(∀ id,id ≠ .h 7->id ≠ .h 8->id ≠ .lot lots.length->dl id=μ id)->Q (VN ab.length) dl):Cs X (l+1) (.ref zbb) [.ref (.h 2)] μ Q:=by
 refine zfg λ R L=>cO<|aW<|uA U .here<|cL zaj (.ref U.hab) ⟨rfl,aj<|cB (.builtin "len") (aj<|uA U .here<|aq<|cW (.ref U.hab) (sz (by rw [ah];exact nT (by assumption) (nB rfl)))<|aq<|cQ U.hab (sz (by rw [ah];exact nT (by assumption) (nB rfl))) ?_)⟩
 rw [ah]
 have e1:ab.map VN ++ [V.int (ab.length:Nat)]=(ab ++ [ab.length]).map VN:=by rw [ax];rfl
 refine bo (e1) ▸ ?_
 have U1:=U.setA (ab':=ab ++ [ab.length]) rfl
 have k1:∀ j,j ≠ .h 7->(μ.set (.h 7) (.list ((ab ++ [ab.length]).map VN))) j=μ j:=λ j h=>av h
 generalize μ.set (.h 7) (.list ((ab ++ [ab.length]).map VN))=dG at U1 k1 ⊢
 refine cO<|aW<|uL U1 .here<|cL zaj (.ref U1.hlots) ⟨rfl,aj<|cV<|aj<|cB (.builtin "len") (aj<|uL U1 .here<|aq<|cW (.ref U1.hlots) (sz (by simp;exact nT (aG ‹_›) (nT ‹_› (by decide)))) ?_)⟩
 have e2:(((List.range lots.length).map λ i=>V.ref (.lot i)).length:Int)=(lots.length:Nat):=by simp
 refine bo (e2) ▸ ?_
 refine aq ⟨szr rfl,.inr ⟨.lot lots.length,(k1 _ (by first | exact aI rfl | simp)).trans hf,aq<|cQ ((av (by first | exact aI rfl | simp)).trans U1.hlots) (sz (by simp;exact nT (aG ‹_›) (nT ‹_› (by decide)))) ?_⟩⟩
 have k2:∀ j,j ≠ .h 7->j ≠ .h 8->j ≠ .lot lots.length->((dG.set (.lot lots.length) (.list [.int (lots.length:Nat)])).set (.h 8) (.list (((List.range lots.length).map λ i=>V.ref (.lot i)) ++ [.ref (.lot lots.length)]))) j=μ j:=λ j h1 h2 h3=>((av h2).trans (av h3)).trans (k1 _ h1)
 have g1:((dG.set (.lot lots.length) (.list [.int (lots.length:Nat)])).set (.h 8) (.list (((List.range lots.length).map λ i=>V.ref (.lot i)) ++ [.ref (.lot lots.length)]))) (.h 7)=some (.list ((ab ++ [ab.length]).map VN)):=((av (by first | exact aI rfl | simp)).trans (av (by first | exact aI rfl | simp))).trans U1.hab
 have g2:((dG.set (.lot lots.length) (.list [.int (lots.length:Nat)])).set (.h 8) (.list (((List.range lots.length).map λ i=>V.ref (.lot i)) ++ [.ref (.lot lots.length)]))) (.h 8)=some (.list ((List.range (lots ++ [[lots.length]]).length).map λ i=>.ref (.lot i))):=Mem.get_eq.trans (by rw [aC,bS,List.range_succ,ax];rfl)
 have g3:((dG.set (.lot lots.length) (.list [.int (lots.length:Nat)])).set (.h 8) (.list (((List.range lots.length).map λ i=>V.ref (.lot i)) ++ [.ref (.lot lots.length)]))) (.lot lots.length)=some (.list ([lots.length].map VN)):=(av (by first | exact aI rfl | simp)).trans aN
 generalize ((dG.set (.lot lots.length) (.list [.int (lots.length:Nat)])).set (.h 8) (.list (((List.range lots.length).map λ i=>V.ref (.lot i)) ++ [.ref (.lot lots.length)])))=dA at k2 g1 g2 g3 ⊢
 have U2:UH dA (ab ++ [ab.length]) (lots ++ [[lots.length]]) mg:=by
  refine⟨(k2 _ (by decide) (by decide) (by first | exact aI rfl | simp)).trans U.hu,g1,g2,λ i x h=>?_,(k2 _ (by decide) (by decide) (by first | exact aI rfl | simp)).trans U.hmg⟩
  by_cases e:i=lots.length
  ·subst e
   rw [cz (an _),Nat.sub_self]at h
   cases h;exact g3
  ·have hi:i < lots.length:=by
    have:=(List.getElem?_eq_some_iff.mp h).1
    simp at this;exact aX (aR ‹_›) ‹_›
   rw [bG hi]at h
   exact(k2 _ (by first | exact aI rfl | simp) (by first | exact aI rfl | simp) (by simpa using e)).trans (U.hlot i x h)
 refine bZ<|cF<|cB (.builtin "len") (aj<|uA U2 .here<|aq<|cW (.ref U2.hab) (sz (by simp;exact nT (by assumption) (nB rfl))) ?_)
 refine cT (n:=1)<|P2.subI ?_
 have e3:(((ab ++ [ab.length]).map VN).length:Int) - (1:Nat)=(ab.length:Nat):=by simp
 rw [e3]
 exact q _ U2 k2
end
noncomputable def FrA (μ dl:Mem):Prop:=∀ j,HId j=false->dl j=μ j
theorem FrA.rfl {μ:Mem}:FrA μ μ:=λ Y Y=>_root_.rfl
theorem FrA.trans {a b c:Mem}(x:FrA a b)(y:FrA b c):FrA a c:=λ j h=>(y j h).trans (x j h)
noncomputable def addU (nodes:List Nd)(sel:List Nat):Nat->Option (List Nat):=λ c=>if c=nodes.length then some []else if c < nodes.length then some (users nodes c ++ if sel.contains c then [nodes.length]else [])else none
theorem zjr {nodes:List Nd}:upd (Built nodes).U nodes.length (some [])=addU nodes []:=by
 funext c
 unfold upd addU
 by_cases e:c=nodes.length
 ·rw [aB e,aB e]
 ·rw [aw e,aw e]
  show (if c < nodes.length then _ else _)=_
  simp
theorem zid {nodes:List Nd}{sel:List Nat}{c:Nat}(h:c < nodes.length):upd (addU nodes sel) c (some (users nodes c ++ [nodes.length]))=addU nodes (sel ++ [c]):=by
 funext d
 unfold upd addU
 by_cases e:d=c
 ·subst e
  rw [aB rfl,aw (by exact aF (by assumption)),aB h];simp
 ·rw [aw e]
  simp [e]
structure Bd (μ:Mem)(w:Nat)(nodes:List Nd):Prop where
 H:HS μ w (Built nodes)
 E:EsX μ nodes.length (Built nodes).U
 lots:∀ c,nodes.length<=c->μ (.lot c)=none
structure Okn (nodes:List Nd):Prop where
 small:nodes.length<=11
 kids:∀ nd∈nodes,nd.2.length<=2/\∀ k∈nd.2,k < nodes.length
 nodup:nodes.Nodup
theorem KV.it {X:Ctx}{l:Nat}{R:Nat->Option Obj}{env:Env}{ρ:Loc}{μ:Mem}{v:V}{ks:List Nat}(h:KV v ks):∃ ok okT,IT X l R env ρ μ v (ks.map VN) ok okT/\(∀ μ,ok μ)/\∀ t,okT t:=by
 induction h with
 | tup=>exact⟨_,_,IT.tup,λ Y=>trivial,λ Y=>trivial⟩
 | lst=>exact⟨_,_,cY,λ Y=>.lst,λ Y=>trivial⟩
theorem zjf {nodes:List Nd}{nd:Nd}:∀ {i:Nat},nd∉nodes->kget (nodes.zipIdx i) nd=none:=by
 induction nodes with
 | nil=>intro i _;rfl
 | cons a r ih =>
  intro i h
  rw [bD,not_or]at h
  rw [List.zipIdx_cons]
  unfold kget
  rw [aw λ e=>h.1 e.symm];exact ih h.2
theorem zeF (nodes:List Nd)(c:Nat):(users nodes c).length<=nodes.length:=by
 unfold users
 refine nT (List.length_filterMap_le ..) ?_
 simp
theorem zio (nodes:List Nd):(bch nodes).length=2 * nodes.length:=by
 unfold bch
 generalize h:nodes.zipIdx=zs
 have:zs.length=nodes.length:=by rw [<- h];simp
 rw [<- this]
 clear h this
 induction zs with
 | nil=>rfl
 | cons z zs ih=>rw [List.flatMap_cons,aC,ih];simp;exact Nat.add_comm _ _
theorem Built.wb {nodes:List Nd}(O:nodes.length<=12):Wb (Built nodes):=⟨by show nodes.length<=_;exact nT (by assumption) (nB rfl),by show (List.range nodes.length).length=_;simp;rfl,λ i v h=>by
 have:(List.range nodes.length)[i]? = some v:=h
 obtain⟨h1,h2⟩:=List.getElem?_eq_some_iff.mp this
 simp at h2;exact aG (bo ‹_›)⟩
theorem Built.wf {nodes:List Nd}(O:Okn nodes):Wf (Built nodes) where
 n30:=by have:=O.small;show nodes.length<=_;exact nT (by assumption) (nB rfl)
 ab:=by show (List.range nodes.length).length=_;simp;rfl
 lots:=by show ((List.range nodes.length).map _).length=_;simp;rfl
 le:=(Built.wb (by have:=O.small;exact aQ (by assumption))).le
 us c hc _:=⟨users nodes c,aB hc⟩
 ul c l h:=by
  have h':(if c < nodes.length then some (users nodes c)else none)=some l:=h
  have:=O.small
  split at h'
  ·cases h';have:=zeF nodes c;exact nT ‹_› (nT ‹_› (by decide))
  ·cases h'
 ll i x h:=by
  have h':((List.range nodes.length).map λ i=>[i])[i]? = some x:=h
  apply mapE h';intro j _
  simp
 mg:=by show ([]:List (Nat × Nat)).length<=_;simp
 edges:=by show ([]:List (Nat × Nat × List Str)).length<=_;simp
 forest:=by show ([]:List Nat).length<=_;simp
 known:=by have:=O.small;show nodes.zipIdx.length<=_;simp;exact nT (by assumption) (nB rfl)
 wait:=by show ([]:List Nat).length<=_;simp
 ul1000:=by have:=O.small;show nodes.length<=_;exact nT (by assumption) (nB rfl)
 kids nd h:=by obtain⟨h1,h2⟩:=O.kids nd h;exact⟨by exact nT (by assumption) (nB rfl),h2⟩
 kn p h:=by
  have h':p∈nodes.zipIdx:=h
  obtain⟨x,i⟩:=p
  have:=List.mem_zipIdx_iff_getElem?.mp h'
  exact(List.getElem?_eq_some_iff.mp this).1
noncomputable def IvT17n1 (dD:Mem)(ks:List Nat)(i:Nat)(ys:List V)(dm:Loc)(dl:Mem):Prop:=∀ (C:Mem->List V->Prop),(Lk dm "self" (.ref (.h 0))->C dD ((ks.take i).map VN))->C dl ys
theorem IvT17n1.mk {dD:Mem}{ks:List Nat}{i:Nat}{ys:List V}{dm:Loc}{dl:Mem}(h1:dl=dD)(h2:ys=(ks.take i).map VN)(h3:Lk dm "self" (.ref (.h 0))):IvT17n1 dD ks i ys dm dl:=by
 subst h1 h2;exact λ C k=>k h3
inductive IvT17b (T:St)(N:List Nd)(w:Nat)(ns:List Nat)(μ:Mem)(i:Nat)(dm:Loc)(dM:Mem):Prop
 | mk (h1:Lk dm "self" (.ref (.h 0))) (h2:Lk dm "n" (VN N.length)) (H:HS dM w (T.wU (addU N (ns.take i)) (N.length+1))) (E:EsX dM (N.length+1) (addU N (ns.take i))) (F:FrA μ dM) (k:∀ c,N.length+1<=c->dM (.lot c)=none)
section
variable {X:Ctx}{l:Nat}{μ:Mem}
variable {R:Nat->Option Obj}{env:Env}{ρ:Loc}{w:Nat}{S S':St}
theorem ziR {op:Str}{v:V}{ks:List Nat}{nodes:List Nd}{i:Nat}{Q:V->Mem->Prop}(B:Bd μ w nodes)(hn:nodes.length<=12)(hv:KV v ks)(hk:ks.length<=2)(hi:nodes.idxOf? (op,ks)=some i)(q:Q (VN i) μ):Cs X (l+5) (.ref zaP) [.ref (.h 0),.str op,v] μ Q:=by
 have hlt:i < nodes.length:=by
  unfold List.idxOf? at hi
  exact(List.findIdx?_eq_some_iff_getElem.mp hi).1
 refine zen λ R L=>db (.inl rfl)<|aW<|hF B.H .here zcF zcN trivial<|bc B.H.B.obj (f:=zaA) (by kernel_rfl) (by decide) ⟨by kernel_rfl,aj<|ak (.there .here)<|aj<|ak (.there<|.there .here)<|aq<|aU<|zjg B.H.B (by show nodes.length<=_;exact nT (by assumption) (nB rfl)) hv (by exact nT (by assumption) (nB rfl)) hi ⟨_,.there (by decide)<|.there (by decide)<|.there (by decide) .new,?_⟩⟩
 refine cZ<|cr<|ak (.there<|.there<|.there .here)<|aW (hF B.H .here za9 za7 trivial<|bc B.H.U.hu (f:=zaO) (by kernel_rfl) (by decide) ⟨by kernel_rfl,aq<|aU<|zed B.H.U (by show (List.range nodes.length).length<=_;simp;exact nT (by assumption) (nB rfl))<|P2.ltN<|bz ⟨λ Y=>bZ<|ak (.there<|.there<|.there .here) ⟨λ e=>dead e,λ x e=>by cases e;exact q⟩,λ hc=>?_⟩⟩) rfl
 have e:(Built nodes).ab.length=nodes.length:=by show (List.range nodes.length).length=_;simp
 have:¬ i < (Built nodes).ab.length:=by simpa using hc
 simp_all
theorem zjW {op:Str}{v:V}{ks:List Nat}{nodes:List Nd}{Q:V->Mem->Prop}(B:Bd μ w nodes)(O0:Okn nodes)(O:Okn (nodes ++ [(op,ks)]))(ho:opOk op=true)(hv:KV v ks)(hkl:∀ k∈ks,k < nodes.length)
  (q:∀ dl,Bd dl w (nodes ++ [(op,ks)])->FrA μ dl->Q (VN nodes.length) dl):Cs X (l+7) (.ref zaP) [.ref (.h 0),.str op,v] μ Q:=by
 have hn:nodes.length<=10:=by have:=O.small;simp at this;assumption
 have hk:ks.length<=2:=(O.kids (op,ks) (by first | exact aI rfl | simp)).1
 have hnot:(op,ks)∉nodes:=λ h=>by
  have:=O.nodup
  rw [List.nodup_append]at this
  exact this.2.2 _ h _ (by first | exact aI rfl | simp) rfl
 have hi:nodes.idxOf? (op,ks)=none:=by
  unfold List.idxOf?
  rw [List.findIdx?_eq_none_iff]
  intro x hx
  simpa using λ e:x=(op,ks)=>hnot (e▸hx)
 refine zen λ R L=>XB.loc3 λ ρ0 ns0 no0 nv0=>cD ρ0 "n" (VN nodes.length) λ ρ u=>db (.inl rfl)<|aW<|hF B.H ns0 zcF zcN trivial<|bc B.H.B.obj (f:=zaA) (by kernel_rfl) (by decide) ⟨by kernel_rfl,aj<|ak no0<|aj<|ak nv0<|aq<|aU<|zjj B.H.B (by show nodes.length<=_;exact nT (by assumption) (nB rfl)) ho hv (by exact nT (by assumption) (nB rfl)) hkl hi λ dG B1 fr1=>⟨ρ,u,?_⟩⟩
 have nn:=u.lk
 have ns:=u.lk' ns0 (by decide)
 have nv:=u.lk' nv0 (by decide)
 clear u ns0 no0 nv0
 have H1:=B.H.setB B1 fr1
 have U1:UH dG (List.range nodes.length) ((List.range nodes.length).map λ i=>[i]) []:=H1.U
 refine cZ<|cr<|ak nn<|aW (hF H1 ns za9 za7 trivial<|bc H1.U.hu (f:=zaO) (by kernel_rfl) (by decide) ⟨by kernel_rfl,aq<|aU<|zed U1 (by simp;exact nT (by assumption) (nB rfl))<|P2.ltN<|bz ⟨λ hc=>?_,λ Y=>di ?_⟩⟩) rfl
 ·have h:nodes.length < (List.range nodes.length).length:=cv hc
  simp at h
 have hlz:((List.range nodes.length).map λ i=>[i]).length=nodes.length:=by simp
 refine cO<|aW (hF H1 ns za9 za7 trivial<|bc H1.U.hu (f:=zbb) (by kernel_rfl) (by decide) ⟨by kernel_rfl,aq<|aU<|ziU U1 (by simp;exact nT (by assumption) (nB rfl)) (by first | exact aI rfl | simp) (by rw [hlz];exact(fr1 _ (by first | exact aI rfl | simp) (by first | exact aI rfl | simp) (by first | exact aI rfl | simp) (by first | exact aI rfl | simp)).trans (B.lots _ (an _))) λ dA U2 fr2=>?_⟩) rfl
 rw [hlz]at U2 fr2
 have U2:UH dA (List.range (nodes.length+1)) ((List.range (nodes.length+1)).map λ i=>[i]) []:=by
  have e1:(List.range nodes.length ++ [(List.range nodes.length).length])=List.range (nodes.length+1):=by rw [aL,List.range_succ]
  have e2:(List.range nodes.length).map (λ i=>[i]) ++ [[nodes.length]]=(List.range (nodes.length+1)).map λ i=>[i]:=by rw [List.range_succ,ax];rfl
  rw [e1,e2]at U2;exact U2
 obtain⟨T,hT⟩:∃ T,T=(((Built nodes).wN (nodes ++ [(op,ks)])).wA (List.range (nodes.length+1)) ((List.range (nodes.length+1)).map λ i=>[i]) []):=⟨_,rfl⟩
 have H2:HS dA w T:=by rw [hT];exact H1.setU U2 λ id a b Y d=>fr2 id a b d
 have hTab:T.ab=List.range (nodes.length+1):=by rw [hT];rfl
 have hTn:T.nodes=nodes ++ [(op,ks)]:=by rw [hT];rfl
 have hTl:T.nodes.length=nodes.length+1:=by rw [hTn];simp
 have hTU:T.U=(Built nodes).U:=by rw [hT];rfl
 have hTc:T.changes=bch nodes:=by rw [hT];rfl
 have k2:∀ j,j ≠ .h 3->j ≠ .h 4->j ≠ .h 5->j ≠ .h 6->j ≠ .h 7->j ≠ .h 8->j ≠ .lot nodes.length->dA j=μ j:=λ j h3 h4 h5 h6 h7 h8 h9=>(fr2 j h7 h8 h9).trans (fr1 j h3 h4 h5 h6)
 have ku:∀ c,dA (.usr c)=μ (.usr c):=λ c=>k2 _ (by first | exact aI rfl | simp) (by first | exact aI rfl | simp) (by first | exact aI rfl | simp) (by first | exact aI rfl | simp) (by first | exact aI rfl | simp) (by first | exact aI rfl | simp) (by first | exact aI rfl | simp)
 have E2:EsX dA nodes.length T.U:=hTU▸⟨(k2 _ (by first | exact aI rfl | simp) (by first | exact aI rfl | simp) (by first | exact aI rfl | simp) (by first | exact aI rfl | simp) (by first | exact aI rfl | simp) (by first | exact aI rfl | simp) (by first | exact aI rfl | simp)).trans B.E.es,λ c h=>by
  refine E12 (B.E.val c h) λ l h1 h2=>?_
  exact⟨l,h1,(ku c).trans h2⟩,B.E.no,λ c h=>(ku c).trans (B.E.fresh c h)⟩
 have kl:∀ c,nodes.length+1<=c->dA (.lot c)=none:=λ c h=>(k2 _ (by first | exact aI rfl | simp) (by first | exact aI rfl | simp) (by first | exact aI rfl | simp) (by first | exact aI rfl | simp) (by first | exact aI rfl | simp) (by first | exact aI rfl | simp) (by simp;exact bu (by assumption))).trans (B.lots c (by exact az (by assumption)))
 refine XB.setI<|cV<|aq ⟨szr rfl,.inr ⟨.usr nodes.length,E2.fresh _ (an _),dd ns ((av (by first | exact aI rfl | simp)).trans H2.obj) za5 (by exact za6) trivial<|ak nn<|SI.dict (kd:=kI) (key:=(nodes.length:Nat)) ((av (by first | exact aI rfl | simp)).trans E2.es) (sz (by unfold esX;simp;exact nT (by assumption) (nB rfl))) ?_⟩⟩
 obtain⟨H3,E3⟩:=H2.addUsr E2 (by rw [hTc];exact ziJ nodes) rfl
 have F3:FrA μ ((dA.set (.usr nodes.length) (.list [])).set (.h 13) (kI.mo (aput (esX nodes.length) (nodes.length:Int) (.ref (.usr nodes.length))))):=λ j hj=>by
  refine(av (λ e=>by subst e;cases hj)).trans ((av (λ e=>by subst e;cases hj)).trans ?_)
  refine k2 j ?_ ?_ ?_ ?_ ?_ ?_ ?_ <;> (intro e;subst e;cases hj)
 have kl3:∀ c,nodes.length+1<=c->((dA.set (.usr nodes.length) (.list [])).set (.h 13) (kI.mo (aput (esX nodes.length) (nodes.length:Int) (.ref (.usr nodes.length))))) (.lot c)=none:=λ c h=>(lne.trans (av (by first | exact aI rfl | simp))).trans (kl c h)
 generalize (dA.set (.usr nodes.length) (.list [])).set (.h 13) (kI.mo (aput (esX nodes.length) (nodes.length:Int) (.ref (.usr nodes.length))))=dD at H3 E3 F3 kl3 ⊢
 have wbT:∀ U n,Wb (T.wU U n):=λ U n=>⟨by show T.nodes.length<=_;exact nsu ‹_› ‹_›,by show T.ab.length=T.nodes.length;rw [hTab,hTl];simp,λ i v h=>by
  have h':(List.range (nodes.length+1))[i]? = some v:=by rw [<- hTab];exact h
  obtain⟨h1,h2⟩:=List.getElem?_eq_some_iff.mp h'
  simp at h2;exact aG (bo ‹_›)⟩
 refine E23 (hv.it (X:=X) (l:=l+6) (R:=R) (env:=cellEnv zcf L zaP) (ρ:=ρ) (μ:=dD)) λ ok okT hit hok hokT=>?_
 refine bJ<|XS.for_<|cA<|cB (.builtin "sorted") (aj<|cB (.type "set") (aj<|dg (zac rfl)<|cA<|ak nv ⟨ks.map VN,ok,okT,hit,hok _,hokT _,[(("self":Str),.ref (.h 0))],IvT17n1 dD ks,?_,by simp,λ Y Y Y Y Y=>hok _,(.mk rfl rfl .here),?_,?_⟩))
 ·exact cell1 ns
 ·intro R' C cl i z ys dm dl hz hI
  apply hI;intro o
  apply mapE hz;intro k hk'
  refine cD dm "kid" (VN k) λ dE u1=>?_
  have o:=u1.lk' o (by decide)
  have hkk:=hkl k (ap hk')
  refine ba (.inl rfl) u1 (cR ⟨λ Y R9=>W.find o H3 (wbT _ _) (ak u1.lk ⟨k,rfl,rfl,by show k < T.nodes.length;exact nss ‹_› ‹_›,sz (by simp;exact nT (bg _ _) (nT ‹_› (by decide))),.mk rfl (?_) o⟩),λ e=>dead e⟩)
  have e:root (T.wU (upd T.U nodes.length (some [])) (nodes.length+1)).ab k=k:=by show root T.ab k=k;rw [hTab];exact zc0
  rw [e,aK,hk',ax];rfl
 ·intro ys dm dl hI
  apply hI;intro _
  rw [ah,aV]
  refine .inl<|aq<|(CV.ssetN (nT hk (by decide)) (λ k h=>au (hkl k h) (nT hn (by decide))) .lst λ nz hnd0 hns=>.inl ?_).mono λ y dl h=>aq h
  have hU0:upd T.U nodes.length (some [])=addU nodes []:=by rw [hTU];exact zjr
  rw [hU0]at H3 E3
  refine⟨nz.map VN,_,_,cY,.lst,trivial,IvT17b T nodes w nz μ,λ Y Y Y Y=>.lst,⟨ns,nn,H3,E3,F3,kl3⟩,?_,?_⟩
  ·rintro R' i z dm dM hz ⟨ns,nn,H4,E4,F4,kl4⟩
   apply mapE hz;intro c hc
   refine cD dm "c" (VN c) λ dE u1=>?_
   have ns:=u1.lk' ns (by decide)
   have nn:=u1.lk' nn (by decide)
   have hcn:c < nodes.length:=hkl c ((hns c).mp (ap hc))
   obtain⟨hci,hce⟩:=List.getElem?_eq_some_iff.mp hc
   have hcs:c∉nz.take i:=by
    intro h
    have nd':nz.Nodup:=hnd0.imp aF
    rw [<- List.take_append_drop i nz,List.nodup_append]at nd'
    exact nd'.2.2 c h c (by rw [List.drop_eq_getElem_cons hci,hce];exact .head _) rfl
   have hval:addU nodes (nz.take i) c=some (users nodes c):=by
    unfold addU
    rw [aw (by exact aF (by assumption)),aB hcn]
    have:(nz.take i).contains c=false:=by simpa using hcs
    rw [this];simp
   refine E12 (E4.val c (by exact bf (by assumption))) λ l0 v1 v2=>?_
   rw [hval]at v1;cases v1
   refine ba (.inl rfl) u1 ?_
   have hget:aget (esX (nodes.length+1)) (c:Int)=some (.ref (.usr c)):=by rw [zeU,aB (by exact bf (by assumption))]
   refine cO<|aW<|cC<|hF H4 ns za5 za6 trivial<|ak u1.lk<|P2.itemD (kd:=kI) (key:=(c:Int)) E4.es hget<|cL zaj (.ref v2) ⟨rfl,aj<|ak nn<|aq<|cQ v2 (sz (by have:=zeF nodes c;rw [ah];exact nT ‹_› (nT ‹_› (by decide)))) ?_⟩
   have e1:upd (addU nodes (nz.take i)) c (some (users nodes c ++ [nodes.length]))=addU nodes (nz.take (i+1)):=by
    rw [aK,hc];exact zid hcn
   have HE:=H4.setUsr (n:=nodes.length+1) (c:=c) (l:=users nodes c ++ [nodes.length]) (l':=(users nodes c).map VN ++ [VN nodes.length]) E4 rfl (by exact bf (by assumption)) (by rw [ax];rfl) (by show noE T.changes=true;rw [hTc];exact ziJ nodes)
   have HE1:HS _ w (T.wU (upd (addU nodes (nz.take i)) c (some (users nodes c ++ [nodes.length]))) (nodes.length+1)):=HE.1
   have HE2:EsX _ (nodes.length+1) (upd (addU nodes (nz.take i)) c (some (users nodes c ++ [nodes.length]))):=HE.2
   rw [e1]at HE1 HE2
   exact cg ⟨λ Y=>⟨ns,nn,HE1,HE2,λ j hj=>(av (λ e=>by subst e;cases hj)).trans (F4 j hj),λ c' h=>(av (by first | exact aI rfl | simp)).trans (kl4 c' h)⟩,λ x e=>dead e⟩
  ·rintro dm dM ⟨ns,nn,H4,E4,F4,kl4⟩
   rw [ah,aV]at H4 E4
   have hU:addU nodes nz=(Built (nodes ++ [(op,ks)])).U:=by
    funext c
    show _=if c < (nodes ++ [(op,ks)]).length then some (users (nodes ++ [(op,ks)]) c)else none
    rw [zhA,aC,bS]
    unfold addU
    have hcc:nz.contains c=ks.contains c:=by
     rw [bW];simpa using hns c
    rw [hcc]
    by_cases e:c=nodes.length
    ·subst e
     have h1:users nodes nodes.length=[]:=by
      unfold users
      rw [List.filterMap_eq_nil_iff]
      rintro⟨nd,i⟩ hp
      have hmem:nd∈nodes:=by
       have:=List.mem_zipIdx_iff_getElem?.mp hp
       exact ap this
      have:=(O0.kids nd hmem).2 nodes.length
      rw [aw]
      intro h
      have:=this (by simpa using h)
      exact absurd (by assumption) (bj _)
     have h2:ks.contains nodes.length=false:=by
      rw [Bool.eq_false_iff]
      intro h
      have:=hkl _ (by simpa using h)
      exact absurd (by assumption) (bj _)
     rw [aB rfl,aB (show nodes.length < nodes.length+1 by exact an _),h1,h2];rfl
    ·rw [aw e]
     by_cases h:c < nodes.length
     ·rw [aB h,aB (show c < nodes.length+1 by exact bf (by assumption))]
     ·rw [aw h,aw (show ¬ c < nodes.length+1 by exact nst ‹_› ‹_›)]
   have wbU:=wbT (addU nodes nz) (nodes.length+1)
   have O12:(nodes ++ [(op,ks)]).length<=12:=by simp;exact aQ (by assumption)
   have Wb':=Built.wf O
   have hTeq:T.wU (addU nodes nz) (nodes.length+1)=(((Built (nodes ++ [(op,ks)])).wK nodes.zipIdx).wC (bch nodes)).wM nodes.length:=by
    rw [hT,hU]
    unfold Built;rw [aC];rfl
   have ZT:Wf (T.wU (addU nodes nz) (nodes.length+1)):=by
    rw [hTeq]
    exact⟨Wb'.n30,Wb'.ab,Wb'.lots,Wb'.le,Wb'.us,Wb'.ul,Wb'.ll,Wb'.mg,Wb'.edges,Wb'.forest,by show nodes.zipIdx.length<=_;simp;exact nT (by assumption) (nB rfl),Wb'.wait,Wb'.ul1000,Wb'.kids,λ p hp=>Wb'.kn p (by
     show p∈(nodes ++ [(op,ks)]).zipIdx
     rw [List.zipIdx_append]
     exact cy _ hp)⟩
   have hnd:nd (T.wU (addU nodes nz) (nodes.length+1)) nodes.length=(op,ks):=by
    unfold nd nkey
    show ((T.nodes.getD nodes.length ("",[])).1,(T.nodes.getD nodes.length ("",[])).2.map (root T.ab))=_
    have:T.nodes.getD nodes.length ("",[])=(op,ks):=by rw [hTn];simp [List.getD]
    rw [this,hTab]
    have:(op,ks).2.map (root (List.range (nodes.length+1)))=ks:=by
     have:∀ xs:List Nat,xs.map (root (List.range (nodes.length+1)))=xs:=λ xs=>by
      induction xs with
      | nil=>rfl
      | cons x xs ih=>rw [aH,ih,zc0]
     exact this ks
    rw [this]
   have hkn:kget T.known (op,ks)=none:=by rw [hT];exact zjf hnot
   have hlk:llook (T.wU (addU nodes nz) (nodes.length+1)) nodes.length=Built (nodes ++ [(op,ks)]):=by
    generalize hA:T.wU (addU nodes nz) (nodes.length+1)=T' at hnd hTeq
    have hkn':kget T'.known (op,ks)=none:=by rw [<- hA];exact hkn
    have m1:look1 T' nodes.length=(T'.wC (T'.changes ++ [.made nodes.length])).wM (nodes.length+1):=aB (by rw [hTeq];rfl)
    unfold llook
    rw [m1]
    have m2:look2 ((T'.wC (T'.changes ++ [.made nodes.length])).wM (nodes.length+1)) nodes.length=((T'.wC (T'.changes ++ [.made nodes.length])).wM (nodes.length+1)).wC ((T'.changes ++ [.made nodes.length]) ++ [.known (nd T' nodes.length)]):=aB (by
     show kget T'.known (nd T' nodes.length)=none
     rw [hnd];exact hkn')
    rw [m2,hnd]
    unfold hlook
    have k2:kget (((T'.wC (T'.changes ++ [.made nodes.length])).wM (nodes.length+1)).wC ((T'.changes ++ [.made nodes.length]) ++ [.known (op,ks)])).known (nd (((T'.wC (T'.changes ++ [.made nodes.length])).wM (nodes.length+1)).wC ((T'.changes ++ [.made nodes.length]) ++ [.known (op,ks)])) nodes.length)=none:=by
     show kget T'.known (nd T' nodes.length)=none
     rw [hnd];exact hkn'
    rw [k2]
    show (((T'.wC (T'.changes ++ [.made nodes.length])).wM (nodes.length+1)).wC ((T'.changes ++ [.made nodes.length]) ++ [.known (op,ks)])).wK (T'.known ++ [(nd T' nodes.length,nodes.length)])=_
    rw [hnd,hTeq]
    unfold Built;rw [zi9,List.zipIdx_append,aC,Nat.zero_add];show St.wK (St.wC _ _) _=_;unfold St.wK St.wC;rw [List.append_assoc];rfl
   refine⟨rfl,?_⟩
   refine cO<|aW<|ak ns<|bc H4.obj (f:=zaf) (by kernel_rfl) (zab (by decide)) ⟨by kernel_rfl,aj<|ak nn<|aq<|aU<|zes H4 ZT (by show T.changes.length<=_;rw [hTc,zio];lia) (by show _ < T.nodes.length;exact aG (bo ‹_›)) λ x dZ H5 F5 L5=>bZ<|ak nn ?_⟩
   refine q dZ ⟨by rw [<- hlk];exact H5,⟨?_,?_,?_,?_⟩,?_⟩ (F4.trans λ j hj=>F5 j ?_)
   ·have e:(nodes ++ [(op,ks)]).length=nodes.length+1:=by simp
    have L:=L5 (by rw [hnd];exact hkn)
    rw [e];exact(L _ (by first | exact aI rfl | simp) (by first | exact aI rfl | simp) (by first | exact aI rfl | simp)).trans E4.es
   ·intro c hc
    have L:=L5 (by rw [hnd];exact hkn)
    have e:(nodes ++ [(op,ks)]).length=nodes.length+1:=by simp
    rw [<- hU]
    refine E12 (E4.val c (by simp_all)) λ l h1 h2=>?_
    exact⟨l,h1,(L _ (by first | exact aI rfl | simp) (by first | exact aI rfl | simp) (by first | exact aI rfl | simp)).trans h2⟩
   ·intro c hc
    exact aw (by exact cH (by assumption))
   ·intro c hc
    have L:=L5 (by rw [hnd];exact hkn)
    have e:(nodes ++ [(op,ks)]).length=nodes.length+1:=by simp
    exact(L _ (by first | exact aI rfl | simp) (by first | exact aI rfl | simp) (by first | exact aI rfl | simp)).trans (E4.fresh c (by simp_all))
   ·intro c hc
    have L:=L5 (by rw [hnd];exact hkn)
    have e:(nodes ++ [(op,ks)]).length=nodes.length+1:=by simp
    exact(L _ (by first | exact aI rfl | simp) (by first | exact aI rfl | simp) (by first | exact aI rfl | simp)).trans (kl4 c (by simp_all))
   ·induction j with
    | h n =>
     have:¬ n < 16:=cj hj
     exact bK this
    | _=>first | rfl | cases hj
end
section
variable {X:Ctx}{l:Nat}{μ:Mem}
variable {R:Nat->Option Obj}{env:Env}{ρ:Loc}{w:Nat}{S S':St}
theorem ziC {Q:V->Mem->Prop}(h1:μ (.h 1)=some (.inst zgN []))(hn:∀ n,3<=n->n<=6->μ (.h n)=none)(q:∀ dl,BH dl []->(∀ j,j ≠ .h 1->j ≠ .h 3->j ≠ .h 4->j ≠ .h 5->j ≠ .h 6->dl j=μ j)->Q .none dl) :
  Cs X (l+1) (.ref zbG) [.ref (.h 1)] μ Q:=by
 refine zgj λ R L=>?_
 refine cU<|cV<|aq ⟨szr rfl,.inr ⟨.h 3,hn _ (by exact an _) (by exact aY _ _),ak .here<|cN ((hne (by decide)).trans h1) .new (by kernel_rfl) (by first | exact aI rfl | simp) ?_⟩⟩
 refine cU<|W.dictNil (kd:=kT) (i:=.h 4) ((hne (by decide)).trans ((hne (by decide)).trans (hn _ (by exact bA _) (by exact aY _ _))))<|ak .here<|cN ((hne (by decide)).trans aN) (.there (by decide) .new) (by kernel_rfl) (by first | exact aI rfl | simp) ?_
 refine cU<|cV<|aq ⟨szr rfl,.inr ⟨.h 5,(hne (by decide)).trans ((hne (by decide)).trans ((hne (by decide)).trans ((hne (by decide)).trans (hn _ (by exact aY _ _) (by exact bA _))))),ak .here<|cN ((hne (by decide)).trans aN) (.there (by decide)<|.there (by decide) .new) (by kernel_rfl) (by first | exact aI rfl | simp) ?_⟩⟩
 refine cU<|cV<|aq ⟨szr rfl,.inr ⟨.h 6,(hne (by decide)).trans ((hne (by decide)).trans ((hne (by decide)).trans ((hne (by decide)).trans ((hne (by decide)).trans ((hne (by decide)).trans (hn _ (by exact aY _ _) (by exact an _))))))),ak .here<|cN ((hne (by decide)).trans aN) (.there (by decide)<|.there (by decide)<|.there (by decide) .new) (by kernel_rfl) (by first | exact aI rfl | simp) ?_⟩⟩
 refine cg<|q _ ⟨aN,?_,⟨[],?_,by simp,λ nd=>rfl⟩,⟨[],?_,rfl⟩,⟨[],?_,rfl⟩⟩ ?_
 ·simp [Mem.set]
 ·simp [Mem.set];rfl
 ·simp [Mem.set]
 ·simp [Mem.set]
 ·intro j h1 h3 h4 h5 h6
  simp [Mem.set,h1,h3,h4,h5,h6]
theorem zgJ {Q:V->Mem->Prop}(h1:μ (.h 2)=some (.inst zgY []))(hn:∀ n,7<=n->n<=9->μ (.h n)=none)(q:∀ dl,UH dl [] [] []->(∀ j,j ≠ .h 2->j ≠ .h 7->j ≠ .h 8->j ≠ .h 9->dl j=μ j)->Q .none dl) :
  Cs X (l+1) (.ref za8) [.ref (.h 2)] μ Q:=by
 refine zey λ R L=>?_
 refine cU<|cV<|aq ⟨szr rfl,.inr ⟨.h 7,hn _ (by exact an _) (by exact aY _ _),ak .here<|cN ((hne (by decide)).trans h1) .new (by kernel_rfl) (by first | exact aI rfl | simp) ?_⟩⟩
 refine cU<|cV<|aq ⟨szr rfl,.inr ⟨.h 8,(hne (by decide)).trans ((hne (by decide)).trans (hn _ (by exact bA _) (by exact bA _))),ak .here<|cN ((hne (by decide)).trans aN) (.there (by decide) .new) (by kernel_rfl) (by first | exact aI rfl | simp) ?_⟩⟩
 refine cU<|cV<|aq ⟨szr rfl,.inr ⟨.h 9,(hne (by decide)).trans ((hne (by decide)).trans ((hne (by decide)).trans ((hne (by decide)).trans (hn _ (by exact aY _ _) (by exact an _))))),ak .here<|cN ((hne (by decide)).trans aN) (.there (by decide)<|.there (by decide) .new) (by kernel_rfl) (by first | exact aI rfl | simp) ?_⟩⟩
 refine cg<|q _ ⟨aN,?_,?_,λ i x h=>(by cases h),?_⟩ ?_
 ·simp [Mem.set]
 ·simp [Mem.set]
 ·simp [Mem.set]
 ·intro j h1 h3 h4 h5
  simp [Mem.set,h1,h3,h4,h5]
structure HI (μ dl:Mem):Prop where
 obj:dl (.h 0)=some (.inst zaa [("bank",.ref (.h 1)),("unions",.ref (.h 2)),("edges",.ref (.h 10)),("forest",.ref (.h 11)),("known",.ref (.h 12)),("above",.ref (.h 13)),("waiting",.ref (.w 0))])
 B:BH dl []
 U:UH dl [] [] []
 edges:dl (.h 10)=some (.list [])
 forest:dl (.h 11)=some (.list [])
 known:dl (.h 12)=some (.dT [])
 above:dl (.h 13)=some (.dI [])
 wait:dl (.w 0)=some (.list [])
 fr:∀ j,(∀ n,n<=13->j ≠ .h n)->j ≠ .w 0->dl j=μ j
theorem zh3 {Q:V->Mem->Prop}(h1:μ (.h 0)=some (.inst zaa []))(hn:∀ n,1<=n->n<=13->μ (.h n)=none)(hw:μ (.w 0)=none)(q:∀ dl,HI μ dl->Q .none dl) :
  Cs X (l+3) (.ref zbH) [.ref (.h 0)] μ Q:=by
 refine zgA λ R L=>?_
 refine cU<|de (cS rfl (by kernel_rfl) ⟨rfl,aq<|CV.new (k:=.h 1) (fI:=zbG) (by kernel_rfl) (hn _ (by exact an _) (by exact aY _ _))<|ziC aN (λ n h h'=>(hne (by (rintro rfl;contradiction))).trans (hn _ (by exact Nat.zero_lt_of_lt (by assumption)) (by exact nT (by assumption) (nB rfl)))) λ dG B1 f1=>⟨rfl,?_⟩⟩) (by kernel_rfl) rfl
 have f1:∀ j,j ≠ .h 1->j ≠ .h 3->j ≠ .h 4->j ≠ .h 5->j ≠ .h 6->dG j=μ j:=λ j a b c d e=>(f1 j a b c d e).trans (av a)
 refine ak .here<|cN ((f1 _ (by first | exact aI rfl | simp) (by first | exact aI rfl | simp) (by first | exact aI rfl | simp) (by first | exact aI rfl | simp) (by first | exact aI rfl | simp)).trans h1) .new (by kernel_rfl) (by first | exact aI rfl | simp) ?_
 have f2:∀ n,n≠0->(dG.set (.h 0) (.inst zaa [("bank",.ref (.h 1))])) (.h n)=dG (.h n):=λ n h=>hne h
 have f2':∀ j,j ≠ .h 0->(dG.set (.h 0) (.inst zaa [("bank",.ref (.h 1))])) j=dG j:=λ n h=>av h
 have g2:(dG.set (.h 0) (.inst zaa [("bank",.ref (.h 1))])) (.h 0)=some (.inst zaa [("bank",.ref (.h 1))]):=aN
 generalize dG.set (.h 0) (.inst zaa [("bank",.ref (.h 1))])=dA at f2 f2' g2 ⊢
 have n2:∀ n,n=2∨(7<=n/\n<=13)->dA (.h n)=none:=λ n h=>(f2 _ (by (rintro rfl;contradiction))).trans ((f1 _ (by simp;(rintro rfl;contradiction)) (by simp;(rintro rfl;contradiction)) (by simp;(rintro rfl;contradiction)) (by simp;(rintro rfl;contradiction)) (by simp;(rintro rfl;contradiction))).trans (hn _ (by lia) (by lia)))
 have B2:BH dA []:=by
  obtain⟨b1,b2,⟨x,b3,b4,b5⟩,⟨y,b6,b7⟩,⟨z,b8,b9⟩⟩:=B1
  exact⟨(f2 _ (by decide)).trans b1,(f2 _ (by decide)).trans b2,⟨x,(f2 _ (by decide)).trans b3,b4,b5⟩,⟨y,(f2 _ (by decide)).trans b6,b7⟩,⟨z,(f2 _ (by decide)).trans b8,b9⟩⟩
 refine cU<|de (cS rfl (by kernel_rfl) ⟨rfl,aq<|CV.new (k:=.h 2) (fI:=za8) (by kernel_rfl) (n2 _ (.inl rfl))<|zgJ aN (λ n h h'=>(hne (by (rintro rfl;contradiction))).trans (n2 _ (by lia))) λ dD U3 f3=>⟨rfl,?_⟩⟩) (by kernel_rfl) rfl
 have f3:∀ j,j ≠ .h 2->j ≠ .h 7->j ≠ .h 8->j ≠ .h 9->dD j=dA j:=λ j a b c d=>(f3 j a b c d).trans (av a)
 have fh3:∀ n,n≠2->n≠7->n≠8->n≠9->dD (.h n)=dA (.h n):=λ n a b c d=>f3 _ (by simpa using a) (by simpa using b) (by simpa using c) (by simpa using d)
 have g3:=(fh3 0 (by decide) (by decide) (by decide) (by decide)).trans g2
 have n3:∀ n,10<=n->n<=13->dD (.h n)=none:=λ n h h'=>(fh3 _ (by (rintro rfl;contradiction)) (by (rintro rfl;contradiction)) (by (rintro rfl;contradiction)) (by exact bu (by assumption))).trans (n2 _ (by exact nvm ‹_› ‹_›))
 have w3:dD (.w 0)=none:=((f3 _ (by first | exact aI rfl | simp) (by first | exact aI rfl | simp) (by first | exact aI rfl | simp) (by first | exact aI rfl | simp)).trans ((f2' _ (by first | exact aI rfl | simp)).trans (f1 _ (by first | exact aI rfl | simp) (by first | exact aI rfl | simp) (by first | exact aI rfl | simp) (by first | exact aI rfl | simp) (by first | exact aI rfl | simp)))).trans hw
 refine ak .here<|cN g3 (.there (by decide) .new) (by kernel_rfl) (by first | exact aI rfl | simp) ?_
 have B3:BH dD []:=B2.keep' λ n h=>fh3 n (by (rintro rfl;contradiction)) (by (rintro rfl;contradiction)) (by (rintro rfl;contradiction)) (by (rintro rfl;contradiction))
 have F:∀ j,(∀ n,n<=13->j ≠ .h n)->dD j=μ j:=λ j h=>(f3 j (h _ (by decide)) (h _ (by decide)) (h _ (by decide)) (h _ (by decide))).trans ((f2' j (h _ (by decide))).trans (f1 j (h _ (by decide)) (h _ (by decide)) (h _ (by decide)) (h _ (by decide)) (h _ (by decide))))
 have g4:(dD.set (.h 0) (.inst zaa [("bank",.ref (.h 1)),("unions",.ref (.h 2))])) (.h 0)=some (.inst zaa [("bank",.ref (.h 1)),("unions",.ref (.h 2))]):=aN
 have f4:∀ j,j ≠ .h 0->(dD.set (.h 0) (.inst zaa [("bank",.ref (.h 1)),("unions",.ref (.h 2))])) j=dD j:=λ j h=>av h
 generalize dD.set (.h 0) (.inst zaa [("bank",.ref (.h 1)),("unions",.ref (.h 2))])=dM at f4 g4 ⊢
 have n4:∀ n,10<=n->n<=13->dM (.h n)=none:=λ n h h'=>(f4 _ (by simp;(rintro rfl;contradiction))).trans (n3 n h h')
 refine cU<|cV<|aq ⟨szr rfl,.inr ⟨.h 10,n4 _ (by exact an _) (by exact aY _ _),ak .here<|cN ((hne (by decide)).trans g4) (.there (by decide)<|.there (by decide) .new) (by kernel_rfl) (by first | exact aI rfl | simp) ?_⟩⟩
 refine cU<|cV<|aq ⟨szr rfl,.inr ⟨.h 11,(hne (by decide)).trans ((hne (by decide)).trans (n4 _ (by exact bA _) (by exact aY _ _))),ak .here<|cN ((hne (by decide)).trans aN) (.there (by decide)<|.there (by decide)<|.there (by decide) .new) (by kernel_rfl) (by first | exact aI rfl | simp) ?_⟩⟩
 refine cU<|W.dictNil (kd:=kT) (i:=.h 12) ((hne (by decide)).trans ((hne (by decide)).trans ((hne (by decide)).trans ((hne (by decide)).trans (n4 _ (by exact aY _ _) (by exact bA _))))))<|ak .here<|cN ((hne (by decide)).trans aN) (.there (by decide)<|.there (by decide)<|.there (by decide)<|.there (by decide) .new) (by kernel_rfl) (by first | exact aI rfl | simp) ?_
 refine cU<|W.dictNil (kd:=kI) (i:=.h 13) ((hne (by decide)).trans ((hne (by decide)).trans ((hne (by decide)).trans ((hne (by decide)).trans ((hne (by decide)).trans ((hne (by decide)).trans (n4 _ (by exact aY _ _) (by exact an _))))))))<|ak .here<|cN ((hne (by decide)).trans aN) (.there (by decide)<|.there (by decide)<|.there (by decide)<|.there (by decide)<|.there (by decide) .new) (by kernel_rfl) (by first | exact aI rfl | simp) ?_
 refine cU<|cV<|aq ⟨szr rfl,.inr ⟨.w 0,wne.trans (wne.trans (wne.trans (wne.trans (wne.trans (wne.trans (wne.trans (wne.trans ((f4 _ (by first | exact aI rfl | simp)).trans w3)))))))),ak .here<|cN ((av (by first | exact aI rfl | simp)).trans aN) (.there (by decide)<|.there (by decide)<|.there (by decide)<|.there (by decide)<|.there (by decide)<|.there (by decide) .new) (by kernel_rfl) (by first | exact aI rfl | simp) ?_⟩⟩
 refine cg<|q _ ⟨aN,B3.keep' λ n h=>?_,U3.keep' (λ n h=>?_) λ c=>?_,?_,?_,?_,?_,?_,?_⟩
 ·have h0:n≠0:=by (rintro rfl;contradiction)
  have h1:n≠10:=by (rintro rfl;contradiction)
  have h2:n≠11:=by (rintro rfl;contradiction)
  have h3:n≠12:=by (rintro rfl;contradiction)
  have h4:n≠13:=by (rintro rfl;contradiction)
  rw [<- f4 _ (by simpa using h0)]
  (repeat refine(av (by first | exact aI rfl | exact λ e=>h0 (Id.h.inj e) | exact λ e=>h1 (Id.h.inj e) | exact λ e=>h2 (Id.h.inj e) | exact λ e=>h3 (Id.h.inj e) | exact λ e=>h4 (Id.h.inj e))).trans ?_) <;> rfl
 ·have h0:n≠0:=by (rintro rfl;contradiction)
  have h1:n≠10:=by (rintro rfl;contradiction)
  have h2:n≠11:=by (rintro rfl;contradiction)
  have h3:n≠12:=by (rintro rfl;contradiction)
  have h4:n≠13:=by (rintro rfl;contradiction)
  rw [<- f4 _ (by simpa using h0)]
  (repeat refine(av (by first | exact aI rfl | exact λ e=>h0 (Id.h.inj e) | exact λ e=>h1 (Id.h.inj e) | exact λ e=>h2 (Id.h.inj e) | exact λ e=>h3 (Id.h.inj e) | exact λ e=>h4 (Id.h.inj e))).trans ?_) <;> rfl
 ·rw [<- f4 _ (by first | exact aI rfl | simp)]
  first | rfl | simp [Mem.set]
 ·first | rfl | simp [Mem.set]
 ·first | rfl | simp [Mem.set]
 ·first | rfl | (simp [Mem.set];rfl)
 ·first | rfl | (simp [Mem.set];rfl)
 ·first | rfl | simp [Mem.set]
 ·intro j h h'
  rw [<- F j h,<- f4 j (h _ (by decide))]
  have h0:=h 0 (by decide)
  have h1:=h 10 (by decide)
  have h2:=h 11 (by decide)
  have h3:=h 12 (by decide)
  have h4:=h 13 (by decide)
  (repeat refine(av (by first | exact h0 | exact h1 | exact h2 | exact h3 | exact h4 | exact h' | exact h' _)).trans ?_) <;> rfl
theorem zjw:SuperOk X zcG zeZ zeJ zaa zaa zbH "__init__" zaT.scope where
 fd:=⟨_,_,zaT,_,_,by unfold Ctx.K;rfl,rfl,rfl⟩
 code:=⟨_,_,_,_,_,_,by unfold Ctx.K;rfl,rfl,by unfold Ctx.prog;rfl⟩
 cell:=⟨_,_,_,by unfold Ctx.K;rfl⟩
 cls:=⟨_,by unfold Ctx.K;rfl⟩
 sub:=by kernel_rfl
 super:=by kernel_rfl
 at_:=by decide
 ks:=rfl
 kc:=rfl
 ka:=rfl
 kind:=rfl
 top:=by kernel_rfl
 third:=by kernel_rfl
 meth:=by kernel_rfl
 fn:=by kernel_rfl
 fn2:=by kernel_rfl
theorem CV.levels {Q:V->Mem->Prop}(hn:∀ j,HId j=true->μ j=none)(q:∀ dl,Bd dl 0 []->FrA μ dl->Q (.ref (.h 0)) dl):CV X (l+5) R env ρ μ (.ref zaa) [] Q:=by
 refine CV.new (k:=.h 0) (fI:=zcG) (by kernel_rfl) (hn _ rfl)<|Cs.plainAt (fd:=zaT) (body:=ze0) (ps:=["self"]) (by kernel_rfl) rfl (by kernel_rfl) (bd1 λ _=>rfl) (by decide) rfl λ R L=>?_
 have hn':∀ j,HId j=true->j ≠ .h 0->(μ.set (.h 0) (.inst zaa [])) j=none:=λ j h h'=>(av h').trans (hn j h)
 refine XAt.ex<|WAt.super rfl (zjw) .here aN (λ R'=>aq<|zh3 aN (λ n h h'=>hn' _ (cx (aM (by assumption) (nB rfl))) (by simp;exact bu (by assumption))) (hn' _ rfl (by first | exact aI rfl | simp)) λ dG I=>?_) rfl
 have nw:∀ j,HId j=true->(∀ n,n<=13->j ≠ .h n)->j ≠ .w 0->dG j=none:=λ j h h1 h2=>(I.fr j h1 h2).trans (hn' j h (h1 0 (by decide)))
 have fin:∀ dA,dA (.h 0)=some (.inst zaa (heapF 0 0))->dA (.h 14)=some (.list [])->dA (.h 15)=some (.list [])->(∀ j,j ≠ .h 0->j ≠ .h 14->j ≠ .h 15->dA j=dG j)->Q (.ref (.h 0)) dA:=by
  intro dA g0 g14 g15 k
  have kh:∀ n,n≠0->n≠14->n≠15->dA (.h n)=dG (.h n):=λ n a b c=>k _ (by simpa using a) (by simpa using b) (by simpa using c)
  have kw:∀ n,dA (.w n)=dG (.w n):=λ n=>k _ (by first | exact aI rfl | simp) (by first | exact aI rfl | simp) (by first | exact aI rfl | simp)
  have B2:BH dA []:=I.B.keep' λ n h=>kh n (by (rintro rfl;contradiction)) (by (rintro rfl;contradiction)) (by (rintro rfl;contradiction))
  have U2:UH dA [] [] []:=I.U.keep' (λ n h=>kh n (by (rintro rfl;contradiction)) (by (rintro rfl;contradiction)) (by (rintro rfl;contradiction))) λ c=>k _ (by first | exact aI rfl | simp) (by first | exact aI rfl | simp) (by first | exact aI rfl | simp)
  have nn:∀ j,HId j=true->(∀ n,j ≠ .h n)->j ≠ .w 0->dA j=none:=λ j h h1 h2=>(k j (h1 0) (h1 14) (h1 15)).trans (nw j h (λ n Y=>h1 n) h2)
  have E2:EsX dA 0 (Built []).U:=⟨(kh _ (by decide) (by decide) (by decide)).trans I.above,λ c h=>absurd h (by exact(cG _ (by assumption)).elim),λ c Y=>rfl,λ c Y=>nn _ rfl (by first | exact aI rfl | simp) (by first | exact aI rfl | simp)⟩
  refine q dA ⟨⟨⟨g0,B2,U2⟩,(kh _ (by decide) (by decide) (by decide)).trans I.edges,(kh _ (by decide) (by decide) (by decide)).trans I.forest,(kh _ (by decide) (by decide) (by decide)).trans I.known,⟨[],E2.es,E2.ok,rfl⟩,(kw _).trans I.wait,⟨[],g14,.nil⟩,⟨g15,nn _ rfl (by first | exact aI rfl | simp) (by first | exact aI rfl | simp)⟩,λ j h=>nn _ rfl (by first | exact aI rfl | simp) (by simp;(rintro rfl;contradiction))⟩,E2,λ c Y=>nn _ rfl (by first | exact aI rfl | simp) (by first | exact aI rfl | simp)⟩ λ j h=>?_
  have h1:∀ n,n < 16->j ≠ .h n:=λ n hn e=>by subst e;exact absurd hn (cj h)
  have h2:j ≠ .w 0:=λ e=>by subst e;cases h
  exact(k j (h1 0 (by decide)) (h1 14 (by decide)) (h1 15 (by decide))).trans ((I.fr j (λ n h=>h1 n (by exact aM (by assumption) (nB rfl))) h2).trans (av (h1 0 (by decide))))
 refine XAt.any<|cU<|cV<|aq ⟨szr rfl,.inr ⟨.h 14,nw _ (by decide) (λ n h=>by simp;(rintro rfl;exact bj _ ‹_›)) (by first | exact aI rfl | simp),ak .here<|cN ((hne (by decide)).trans I.obj) (.there (by decide)<|.there (by decide)<|.there (by decide)<|.there (by decide)<|.there (by decide)<|.there (by decide)<|.there (by decide) .new) (by kernel_rfl) (by first | exact aI rfl | simp) ?_⟩⟩
 refine cU<|cV<|aq ⟨szr rfl,.inr ⟨.h 15,(hne (by decide)).trans ((hne (by decide)).trans (nw _ (by decide) (λ n h=>by simp;(rintro rfl;contradiction)) (by first | exact aI rfl | simp))),ak .here<|cN ((hne (by decide)).trans aN) (.there (by decide)<|.there (by decide)<|.there (by decide)<|.there (by decide)<|.there (by decide)<|.there (by decide)<|.there (by decide)<|.there (by decide) .new) (by kernel_rfl) (by first | exact aI rfl | simp) ?_⟩⟩
 refine cU<|cT (n:=0)<|ak .here<|cN aN (.there (by decide)<|.there (by decide)<|.there (by decide)<|.there (by decide)<|.there (by decide)<|.there (by decide)<|.there (by decide)<|.there (by decide)<|.there (by decide) .new) (by kernel_rfl) (by first | exact aI rfl | simp)<|cg ⟨rfl,fin _ aN (by simp [Mem.set]) (by simp [Mem.set]) (λ j a b c=>by simp [Mem.set,a,b,c])⟩
theorem zhU {k:Nat}{Q:V->Mem->Prop}(H:HS μ w S)(hn:μ (.h 16)=none)(r:Run k S S')(q:∀ dl,HS dl w S'->TH dl->(∀ j,Mine j=false->j ≠ .h 16->dl j=μ j)->Q (.ref (.h 16)) dl):CV X (l+9) R env ρ μ (.ref zbQ) [.ref (.h 0)] Q:=by
 refine CV.new (k:=.h 16) (fI:=zbZ) (by kernel_rfl) hn<|zft λ R L=>?_
 have H1:HS (μ.set (.h 16) (.inst zbQ [])) w S:=H.keep λ j h=>av (λ e=>by subst e;cases h)
 refine cU<|ak (.there .here)<|ak .here<|cN aN .new (by kernel_rfl) (by first | exact aI rfl | simp) ?_
 have H2:HS ((μ.set (.h 16) (.inst zbQ [])).set (.h 16) (.inst zbQ [("heap",.ref (.h 0))])) w S:=H1.keep λ j h=>av (λ e=>by subst e;cases h)
 have T2:TH ((μ.set (.h 16) (.inst zbQ [])).set (.h 16) (.inst zbQ [("heap",.ref (.h 0))])):=aN
 refine cO<|aW (dd .here T2 .here (by kernel_rfl) trivial<|bc H2.obj (f:=zas) (by kernel_rfl) (zab (by decide)) ⟨by kernel_rfl,aq<|aU<|zcl H2 r λ dD H3 F3=>cg ⟨rfl,q _ H3 (T2.keep F3) λ j h h'=>(F3 j h).trans ((av h').trans (av h'))⟩⟩) rfl
end
/-! the plain law: what the heap's steps do to likeness -/
noncomputable def sumR (n:Nat)(f:Nat->Nat):Nat:=match n with
 | 0=>0
 | n+1=>sumR n f+f n
theorem zet {f g:Nat->Nat}:∀ {n:Nat},(∀ c,c < n->f c=g c)->sumR n f=sumR n g
 | 0,_=>rfl
 | n+1,h=>by unfold sumR;rw [zet λ c hc=>h c (by exact bf (by assumption)),h n (by exact an _)]
theorem zcv {f g:Nat->Nat}{k:Nat}:∀ {n:Nat},k < n->(∀ c,c < n->c≠k->g c=f c)->sumR n g+f k=sumR n f+g k
 | n+1,hk,h=>by
  unfold sumR
  by_cases e:k=n
  ·subst e
   rw [zet (f:=g) (g:=f) λ c hc=>h c (by exact bf (by assumption)) (by exact aF (by assumption))];exact bB _ _ _
  ·have:=zcv (f:=f) (g:=g) (n:=n) (k:=k) (by exact aX (aR ‹_›) ‹_›) λ c hc=>h c (by exact bf (by assumption))
   have:=h n (by exact an _) (by (rintro rfl;contradiction))
   exact nrl ‹_› ‹_›
theorem zgf {f:Nat->Nat}{k:Nat}:∀ {n:Nat},k < n->f k<=sumR n f
 | n+1,hk=>by
  unfold sumR
  by_cases e:k=n
  ·subst e;exact aY _ _
  ·have:=zgf (f:=f) (n:=n) (k:=k) (by exact aX (aR ‹_›) ‹_›);exact Nat.le_add_right_of_le (‹_›)
theorem zjb {ab:List Nat}(hl:LE ab){k g:Nat}(hk:ab[k]? = some k)(hg:ab[g]? = some g)(hkg:k < g):∀ x,x < ab.length->root (ab.set g k) x=if root ab x=g then k else root ab x:=by
 have hgl:g < ab.length:=(List.getElem?_eq_some_iff.mp hg).1
 have hk':root (ab.set g k) k=k:=by
  refine zak ?_
  rw [aA,ch (by exact bu (by assumption)),hk];simp
 intro x
 induction x using Nat.strongRecOn with
 | _ x ih =>
  intro hx
  by_cases e:x=g
  ·subst e
   have h1:root ab x=x:=by refine zak ?_;rw [aA,hg];simp
   rw [h1,aB rfl]
   have h2:(ab.set x k).getD x x=k:=by rw [aA,List.getElem?_set_self hgl];rfl
   rw [zbg (by rw [h2];exact hkg),h2,hk']
  ·have h2:(ab.set g k).getD x x=ab.getD x x:=by rw [aA,ch (λ h=>e h.symm),<- aA]
   by_cases h:ab.getD x x < x
   ·rw [zbg (by rw [h2];exact h),h2,zbg h]
    exact ih _ h (by exact bU (by assumption) (by assumption))
   ·rw [zak (by rw [h2];exact h),zak h,aw e]
theorem LE.set {ab:List Nat}(hl:LE ab){k g:Nat}(h:k<=g):LE (ab.set g k):=by
 intro i v e
 by_cases hi:i=g
 ·subst hi
  by_cases hlt:i < ab.length
  ·rw [List.getElem?_set_self hlt]at e;cases e;exact h
  ·rw [List.getElem?_set]at e
   simp [hlt]at e
 ·rw [ch (λ h=>hi h.symm)]at e;exact hl _ _ e
inductive CC (N:List Nd)(P:Nat->Nat->Prop):Nat->Nat->Prop
 | base {a b:Nat}:P a b->CC N P a b
 | refl {a:Nat}:CC N P a a
 | symm {a b:Nat}:CC N P a b->CC N P b a
 | trans {a b c:Nat}:CC N P a b->CC N P b c->CC N P a c
 | cong {i j:Nat} {d e:Nd}:N[i]? = some d->N[j]? = some e->d.1=e.1->d.2.length=e.2.length->(∀ (k x y:Nat),d.2[k]? = some x->e.2[k]? = some y->CC N P x y)->CC N P i j
theorem CC.mono {N:List Nd}{P P':Nat->Nat->Prop}(h:∀ a b,P a b->CC N P' a b){a b:Nat}(c:CC N P a b):CC N P' a b:=by
 induction c with
 | base p=>exact h _ _ p
 | refl=>exact .refl
 | symm _ ih=>exact .symm ih
 | trans _ _ ih1 ih2=>exact .trans ih1 ih2
 | cong h1 h2 h3 h4 _ ih=>exact .cong h1 h2 h3 h4 ih
set_option tactic.hygienic true in
theorem CC.least {N:List Nd}{P:Nat->Nat->Prop}{f:Nat->Nat}(hP:∀ a b,P a b->a < N.length/\b < N.length/\f a=f b)
  (hc:∀ i j d e,N[i]? = some d->N[j]? = some e->d.1=e.1->d.2.map f=e.2.map f->f i=f j) {a b:Nat} (c:CC N P a b):a=b∨(a < N.length/\b < N.length/\f a=f b):=by
 induction c with
 | base p=>exact .inr (hP _ _ p)
 | refl=>exact .inl rfl
 | symm _ ih=>rcases ih with h | ⟨h1,h2,h3⟩;exact .inl h.symm;exact .inr ⟨h2,h1,h3.symm⟩
 | trans _ _ ih1 ih2 =>
  rcases ih1 with rfl | ⟨h1,h2,h3⟩
  ·exact ih2
  ·rcases ih2 with rfl | ⟨h4,h5,h6⟩
   ·exact .inr ⟨h1,h2,h3⟩
   ·exact .inr ⟨h1,h5,h3.trans h6⟩
 | cong h1 h2 h3 h4 _ ih =>
  refine .inr ⟨(List.getElem?_eq_some_iff.mp h1).1,(List.getElem?_eq_some_iff.mp h2).1,hc _ _ _ _ h1 h2 h3 (List.ext_getElem? λ k=>?_)⟩
  rw [aD,aD]
  rename_i d e _
  induction e1:d.2[k]? with
  | none =>
   have:e.2[k]? = none:=by rw [List.getElem?_eq_none_iff]at e1 ⊢;simp_all
   rw [this]
  | some x =>
   have hk:=(List.getElem?_eq_some_iff.mp e1).1
   have e2:e.2[k]? = some e.2[k]:=al (by simp_all)
   rw [e2]
   rcases ih k x _ e1 e2 with h | ⟨_,_,h⟩
   ·rw [h]
   ·show some (f x)=some (f _);rw [h]
theorem CC.like {N:List Nd}{P:Nat->Nat->Prop}{f:Nat->Nat}(hP:∀ a b,P a b->a < N.length/\b < N.length/\f a=f b)
  (hc:∀ i j d e,N[i]? = some d->N[j]? = some e->d.1=e.1->d.2.map f=e.2.map f->f i=f j) {a b:Nat} (c:CC N P a b):f a=f b:=by
 rcases c.least hP hc with h | ⟨_,_,h⟩
 ·rw [h]
 ·exact h
noncomputable def isR (ab:List Nat)(c:Nat):Nat:=if ab[c]? = some c then 1 else 0
noncomputable def nR (ab:List Nat):Nat:=sumR ab.length (isR ab)
noncomputable def lenU (U:Nat->Option (List Nat))(c:Nat):Nat:=((U c).getD []).length
theorem ziW {ab:List Nat}{k g:Nat}(hg:ab[g]? = some g)(h:k≠g):nR (ab.set g k)+1=nR ab:=by
 have hgl:g < ab.length:=(List.getElem?_eq_some_iff.mp hg).1
 have:=zcv (f:=isR ab) (g:=isR (ab.set g k)) (n:=ab.length) hgl λ c Y hc=>by
  unfold isR;rw [ch (λ e=>hc e.symm)]
 unfold nR
 rw [List.length_set]
 have h1:isR ab g=1:=by unfold isR;rw [aB hg]
 have h2:isR (ab.set g k) g=0:=by unfold isR;rw [List.getElem?_set_self hgl,aw];simpa using h
 simp_all
theorem zjD {ab:List Nat}{g:Nat}(hg:ab[g]? = some g):1<=nR ab:=by
 have hgl:g < ab.length:=(List.getElem?_eq_some_iff.mp hg).1
 have:=zgf (f:=isR ab) hgl
 have h1:isR ab g=1:=by unfold isR;rw [aB hg]
 unfold nR;simp_all
noncomputable def phi (S:St):Nat:=S.wait.length+110 * nR S.ab
structure TI (S0:St)(P:Nat->Nat->Prop)(b:Nat)(x:Option Nat)(S:St):Prop where
 n10:S.nodes.length<=10
 ab:S.ab.length=S.nodes.length
 lots:S.lots.length=S.nodes.length
 le:LE S.ab
 kids:∀ d∈S.nodes,d.2.length<=2/\∀ k∈d.2,k < S.nodes.length
 made:S.made=S.nodes.length
 snd:∀ a c,a < S.nodes.length->c < S.nodes.length->root S.ab a=root S.ab c->CC S.nodes P a c
 kn:∀ p∈S.known,p.2 < S.nodes.length/\∃ d,S.nodes[p.2]? = some d/\p.1.1=d.1/\p.1.2.length=d.2.length/\∀ (k u v:Nat),p.1.2[k]? = some u->d.2[k]? = some v->u < S.nodes.length/\root S.ab u=root S.ab v
 cov:∀ i,i < S.nodes.length->i∈S.wait∨x=some i∨∃ m,kget S.known (nd S i)=some m/\root S.ab m=root S.ab i
 usr:∀ i d,S.nodes[i]? = some d->∀ k∈d.2,i∈uu S (root S.ab k)
 dom:∀ c,S.ab[c]? = some c->∃ l,S.U c=some l
 dom':∀ c l,S.U c=some l->S.ab[c]? = some c
 tot:sumR S.nodes.length (lenU S.U)<=100
 ulen:S.ul=nR S.ab
 mgl:S.mg.length+nR S.ab=S.nodes.length
 ll:∀ (i:Nat) (l:List Nat),S.lots[i]? = some l->l.Nodup/\∀ x∈l,x < S.nodes.length/\root S.ab x=root S.ab i
 wlt:∀ i∈S.wait,i < S.nodes.length
 ult:∀ c l,S.U c=some l->∀ i∈l,i < S.nodes.length
 b1:S.changes.length+phi S<=b
 b2:S.edges.length+phi S<=b
 b3:S.known.length+phi S<=b
 b4:S.forest.length+phi S<=b
 b5:b<=4000
 back:∃ n,∀ ws,Back n (S.wW ws) (S0.wW ws)
theorem TI.ul_le {S0 S:St}{P:Nat->Nat->Prop}{b:Nat}{x:Option Nat}(T:TI S0 P b x S){c:Nat}{l:List Nat}(h:S.U c=some l):l.length<=100:=by
 have hc:=(List.getElem?_eq_some_iff.mp (T.dom' c l h)).1
 have:=zgf (f:=lenU S.U) (n:=S.nodes.length) (k:=c) (by rw [<- T.ab];exact hc)
 have e:lenU S.U c=l.length:=by unfold lenU;rw [h];rfl
 have:=T.tot
 lia
theorem TI.llen {S0 S:St}{P:Nat->Nat->Prop}{b:Nat}{x:Option Nat}(T:TI S0 P b x S){i:Nat}{l:List Nat}(h:S.lots[i]? = some l):l.length<=10:=by
 obtain⟨h1,h2⟩:=T.ll i l h
 have:=h1.length_le_of_subset (l₂:=List.range S.nodes.length) λ x hx=>List.mem_range.mpr (h2 x hx).1
 rw [aL]at this
 exact nT this T.n10
theorem TI.wf {S0 S:St}{P:Nat->Nat->Prop}{b:Nat}{x:Option Nat}(T:TI S0 P b x S):Wf S where
 n30:=by have:=T.n10;exact nT (by assumption) (nB rfl)
 ab:=T.ab
 lots:=T.lots
 le:=T.le
 us c hc h:=T.dom c h
 ul c l h:=by have:=T.ul_le h;exact nT (by assumption) (nB rfl)
 ll i l h:=nT (T.llen h) (by decide)
 mg:=by have:=T.mgl;have:=T.n10;exact nT (aS _ _) (nT (aG ‹_›) (nT ‹_› (by decide)))
 edges:=by have:=T.b2;have:=T.b5;exact nT (aS _ _) (nT ‹_› (nT ‹_› (by decide)))
 forest:=by have:=T.b4;have:=T.b5;exact nT (aS _ _) (nT ‹_› (nT ‹_› (by decide)))
 known:=by have:=T.b3;have:=T.b5;exact nT (aS _ _) (nT ‹_› (nT ‹_› (by decide)))
 wait:=by have h:=T.b1;have:=T.b5;unfold phi at h;exact nun ‹_› ‹_›
 ul1000:=by have:=T.ulen;have:=T.mgl;have:=T.n10;exact nuo ‹_› ‹_› ‹_›
 kids d h:=by obtain⟨h1,h2⟩:=T.kids d h;exact⟨by exact nT (by assumption) (nB rfl),h2⟩
 kn p h:=(T.kn p h).1
theorem TI.back1 {S0 S S':St}{P:Nat->Nat->Prop}{b:Nat}{x:Option Nat}(T:TI S0 P b x S){c:Ch}(hc:S'.changes=S.changes ++ [c])(u:∀ ws,Und ((S'.wW ws).wC S.changes) c (S.wW ws)):∃ n,∀ ws,Back n (S'.wW ws) (S0.wW ws):=by
 obtain⟨n,h⟩:=T.back
 exact⟨n+1,λ ws=>.step hc (by have:=T.b1;have:=T.b5;exact nT (aS _ _) (nT ‹_› (nT ‹_› (by decide)))) (u ws) (h ws)⟩
theorem zc1 {S:St}{a c:Nat}{r:List Str}(h:root S.ab a=root S.ab c):ljoin S a c r=(S.wC (S.changes ++ [.edge (root S.ab a) (uu S (root S.ab a)).length (root S.ab a) (uu S (root S.ab a))])).wE (S.edges ++ [(a,c,r)]):=by
 have h1:lo S a c=root S.ab a:=by unfold lo;rw [<- h];exact Nat.min_self _
 have h2:hi S a c=root S.ab a:=by unfold hi;rw [<- h];exact Nat.max_self _
 unfold ljoin hjoin
 rw [h1,h2]
 exact aB h
noncomputable def jn (S:St)(a c:Nat)(r:List Str)(k g:Nat)(lk lg:List Nat):St:=((((((S.wC (S.changes ++ [.edge k lk.length g lg])).wE (S.edges ++ [(a,c,r)])).wA (S.ab.set g k) (S.lots.set k (S.lots.getD k [] ++ S.lots.getD g [])) (S.mg ++ [(k,g)])).wF (S.forest ++ [S.edges.length])).wW (S.wait ++ lg)).wU
  (upd (upd S.U g none) k (some (lk ++ lg))) (S.ul - 1))
theorem zfe {S:St}{a c:Nat}{r:List Str}(h:root S.ab a≠root S.ab c):ljoin S a c r=jn S a c r (lo S a c) (hi S a c) (uu S (lo S a c)) (uu S (hi S a c)):=by
 unfold ljoin hjoin
 exact aw h
theorem len1S {l:List α}{x:α}{p q b:Nat}(h:l.length+p<=b)(hp:q+10<=p):(l ++ [x]).length+q<=b:=by
 rw [aC];exact arS h hp
theorem len1R {l:List α}{x:α}{p b:Nat}(h:l.length+p<=b):(l ++ [x]).length+p<=b+1:=by
 rw [aC];exact arR h
theorem TI.joinL {S0 S:St}{P:Nat->Nat->Prop}{b:Nat}{x:Option Nat}(T:TI S0 P b x S)(hb:b < 4000){a c:Nat}{r:List Str}(h:root S.ab a=root S.ab c):TI S0 P (b+1) x (ljoin S a c r):=by
 rw [zc1 h]
 exact⟨T.n10,T.ab,T.lots,T.le,T.kids,T.made,T.snd,T.kn,T.cov,T.usr,T.dom,T.dom',T.tot,T.ulen,T.mgl,T.ll,T.wlt,T.ult,len1R T.b1,len1R T.b2,aQ T.b3,aQ T.b4,hb,T.back1 rfl λ ws=>UD.mk _ _ rfl (nT (aS _ _) (nT T.b2 (nT T.b5 (by decide)))) (λ Y=>rfl) (λ h=>absurd rfl h)⟩
theorem TI.cover {S0 S:St}{P:Nat->Nat->Prop}{b i:Nat}(T:TI S0 P b (some i) S)(h:i∈S.wait∨∃ m,kget S.known (nd S i)=some m/\root S.ab m=root S.ab i):TI S0 P b none S :=
 ⟨T.n10,T.ab,T.lots,T.le,T.kids,T.made,T.snd,T.kn,λ j hj=>by
  rcases T.cov j hj with h' | h' | h'
  ·exact .inl h'
  ·cases h';rcases h with h | h
   ·exact .inl h
   ·exact .inr (.inr h)
  ·exact .inr (.inr h'),T.usr,T.dom,T.dom',T.tot,T.ulen,T.mgl,T.ll,T.wlt,T.ult,T.b1,T.b2,T.b3,T.b4,T.b5,T.back⟩
theorem zbT {U:Nat->Option (List Nat)}{c:Nat}{v:Option (List Nat)}:upd U c v c=v:=aB rfl
theorem zbK {U:Nat->Option (List Nat)}{c j:Nat}{v:Option (List Nat)}(h:j≠c):upd U c v j=U j:=aw h
theorem zje {U:Nat->Option (List Nat)}{n k g:Nat}{lk lg:List Nat}(hk:k < n)(hg:g < n)(h:k≠g)(ek:U k=some lk)(eg:U g=some lg):sumR n (lenU (upd (upd U g none) k (some (lk ++ lg))))=sumR n (lenU U):=by
 have h1:=zcv (f:=lenU U) (g:=lenU (upd U g none)) hg λ c Y hc=>by unfold lenU;rw [zbK hc]
 have h2:=zcv (f:=lenU (upd U g none)) (g:=lenU (upd (upd U g none) k (some (lk ++ lg)))) hk λ c Y hc=>by unfold lenU;rw [zbK hc]
 have e1:lenU U g=lg.length:=by unfold lenU;rw [eg];rfl
 have e2:lenU (upd U g none) g=0:=by unfold lenU;rw [zbT];rfl
 have e3:lenU (upd U g none) k=lk.length:=by unfold lenU;rw [zbK h,ek];rfl
 have e4:lenU (upd (upd U g none) k (some (lk ++ lg))) k=lk.length+lg.length:=by
  unfold lenU;rw [zbT];show (lk ++ lg).length=_;rw [aC]
 lia
theorem zgX {l:List α}{g:Nat}{v:α}(h:l[g]? = some v):l.set g v=l:=by
 obtain⟨h1,h2⟩:=List.getElem?_eq_some_iff.mp h
 rw [<- h2];exact List.set_getElem_self h1
theorem zjM {S:St}{ab1 ab2:List Nat}{lots1 lots2:List (List Nat)}{mg1:List (Nat × Nat)}{es1:List (Nat × Nat × List Str)}{f1 ws w1:List Nat}{cs:List Ch}{U1 U2:Nat->Option (List Nat)}{n m:Nat}(e1:ab2=S.ab)(e2:lots2=S.lots)(e3:U2=S.U)(e4:n=S.ul) :
  ((((((((((((S.wC cs).wE es1).wA ab1 lots1 mg1).wF f1).wW w1).wU U1 m).wW ws).wC S.changes).wE S.edges).wF S.forest).wA ab2 lots2 S.mg).wU U2 n)=S.wW ws:=by
 subst e1 e2 e3 e4;rfl
theorem zkb {L:List Nat}{i j:Nat}(h:L[i]? = some i)(h':L[j]? = some j):L[min i j]? = some (min i j):=by rcases ziQ i j with e | e <;> rw [e] <;> assumption
theorem zj8 {L:List Nat}{i j:Nat}(h:L[i]? = some i)(h':L[j]? = some j):L[max i j]? = some (max i j):=by rcases zh8 i j with e | e <;> rw [e] <;> assumption
theorem upd2 {U:Nat->Option (List Nat)}{k g:Nat}{l:List Nat}{q:Nat}(h1:q≠k)(h2:q≠g):upd (upd U g none) k (some l) q=U q:=(zbK h1).trans (zbK h2)
theorem upd2g {U:Nat->Option (List Nat)}{k g:Nat}{l:List Nat}(h:k≠g):upd (upd U g none) k (some l) g=none:=(zbK h.symm).trans zbT
theorem zhf {U:Nat->Option (List Nat)}{k g q:Nat}{l l':List Nat}(h:upd (upd U g none) k (some l) q=some l'):(q=k/\l=l')∨(q≠k/\q≠g/\U q=some l'):=by
 by_cases e:q=k
 ·subst e;rw [zbT]at h;exact .inl ⟨rfl,Option.some.inj h⟩
 ·rw [zbK e]at h
  by_cases e2:q=g
  ·subst e2;rw [zbT]at h;cases h
  ·rw [zbK e2]at h;exact .inr ⟨e,e2,h⟩
theorem zjp {U:Nat->Option (List Nat)}{k g:Nat}{lk lg:List Nat}(ek:U k=some lk)(eg:U g=some lg):upd (upd (upd (upd U g none) k (some (lk ++ lg))) k (some ((lk ++ lg).take lk.length))) g (some lg)=U:=by
 funext c
 by_cases h:c=g
 ·subst h;rw [zbT,eg]
 ·rw [zbK h]
  by_cases h2:c=k
  ·subst h2;rw [zbT,ek,List.take_left'];rfl
  ·rw [zbK h2,zbK h2,zbK h]
theorem zjz {L:List α}{k:Nat}{x d:α}(h:L[k]? = some x):L.getD k d=x:=by rw [aA,h];rfl
theorem zib {L:List (List Nat)}{k:Nat}(h:k < L.length):L[k]? = some (L.getD k []):=by rw [zjz (al h)];exact al h
theorem ziK {L:List (List Nat)}{k g i:Nat}{l:List Nat}(h:(L.set k (L.getD k [] ++ L.getD g []))[i]? = some l):(i=k/\l=L.getD k [] ++ L.getD g [])∨(i≠k/\L[i]? = some l):=by
 by_cases e:i=k
 ·subst e
  have kl:i < L.length:=List.length_set▸(List.getElem?_eq_some_iff.mp h).1
  rw [List.getElem?_set_self kl]at h
  exact .inl ⟨rfl,(Option.some.inj h).symm⟩
 ·rw [ch (λ h=>e h.symm)]at h;exact .inr ⟨e,h⟩
theorem zh4 {L:List (List Nat)}{k g:Nat}(h:k≠g)(kl:k < L.length):(L.set k (L.getD k [] ++ L.getD g [])).getD k []=L.getD k [] ++ L.getD g []/\(L.set k (L.getD k [] ++ L.getD g [])).getD g []=L.getD g [] /\
  (L.set k (L.getD k [] ++ L.getD g [])).set k (((L.set k (L.getD k [] ++ L.getD g [])).getD k []).take (((L.set k (L.getD k [] ++ L.getD g [])).getD k []).length - ((L.set k (L.getD k [] ++ L.getD g [])).getD g []).length))=L:=by
 have gk:(L.set k (L.getD k [] ++ L.getD g [])).getD k []=L.getD k [] ++ L.getD g []:=zjz (List.getElem?_set_self kl)
 have gg:(L.set k (L.getD k [] ++ L.getD g [])).getD g []=L.getD g []:=by
  rw [aA,ch h,<- aA]
 refine⟨gk,gg,?_⟩
 rw [gk,gg,List.set_set,aC,Nat.add_sub_cancel,List.take_left' rfl]
 exact zgX (zib kl)
structure JW (S:St)(a c k g:Nat)(lk lg:List Nat):Prop where
 hk:S.ab[k]? = some k
 hg:S.ab[g]? = some g
 kg:k < g
 ek:S.U k=some lk
 eg:S.U g=some lg
 two:(k=root S.ab a/\g=root S.ab c)∨(k=root S.ab c/\g=root S.ab a)
section
variable {S0 S:St}{P:Nat->Nat->Prop}{b:Nat}{x:Option Nat}(T:TI S0 P b x S){a c k g:Nat}{lk lg:List Nat}{r:List Str}(J:JW S a c k g lk lg)
include T J
theorem JW.root (i:Nat)(h:i < S.nodes.length):root (S.ab.set g k) i=if root S.ab i=g then k else root S.ab i:=zjb T.le J.hk J.hg J.kg i (T.ab▸h)
theorem JW.mono (i j:Nat)(h:i < S.nodes.length)(h':j < S.nodes.length)(e:Internal.root S.ab i=Internal.root S.ab j):Internal.root (S.ab.set g k) i=Internal.root (S.ab.set g k) j:=by rw [J.root T i h,J.root T j h',e]
theorem JW.kn:k < S.nodes.length:=T.ab▸(List.getElem?_eq_some_iff.mp J.hk).1
theorem JW.gn:g < S.nodes.length:=T.ab▸(List.getElem?_eq_some_iff.mp J.hg).1
theorem JW.uk:uu S k=lk:=by unfold uu;rw [J.ek];rfl
theorem JW.ug:uu S g=lg:=by unfold uu;rw [J.eg];rfl
theorem JW.nd (i:Nat)(hi:i < S.nodes.length):Internal.nd (jn S a c r k g lk lg) i=Internal.nd S i∨i∈S.wait ++ lg:=by
 refine E12 (zfE hi) λ d d1 d2=>?_
 by_cases h:∃ q∈d.2,Internal.root S.ab q=g
 ·refine E12 (h) λ q q1 q2=>?_
  have:=T.usr i d d1 q q1
  rw [q2,J.ug T]at this
  exact .inr (List.mem_append_right _ this)
 ·refine .inl ?_
  show nkey (S.ab.set g k) (S.nodes.getD i ("",[]))=Internal.nd S i
  rw [d2,zjz d1]
  have:d.2.map (Internal.root (S.ab.set g k))=d.2.map (Internal.root S.ab):=List.map_congr_left λ q hq=>by
   rw [J.root T q ((T.kids d (ap d1)).2 q hq),aw λ e=>h ⟨q,hq,e⟩]
  unfold nkey
  rw [this]
theorem JW.snd (ha:a < S.nodes.length)(hc:c < S.nodes.length)(hs:CC S.nodes P a c)(i j:Nat)(hi:i < S.nodes.length)(hj:j < S.nodes.length)(e:Internal.root (S.ab.set g k) i=Internal.root (S.ab.set g k) j):CC S.nodes P i j:=by
 have toR:∀ i,i < S.nodes.length->CC S.nodes P i (Internal.root S.ab i):=λ i h =>
  T.snd _ _ h (T.ab▸zck T.le i (T.ab▸h)) (zdC T.le (T.ab▸h)).symm
 have hac:CC S.nodes P k g:=by
  have h3:=(toR a ha).symm.trans (hs.trans (toR c hc))
  rcases J.two with ⟨t1,t2⟩ | ⟨t1,t2⟩
  ·rw [t1,t2];exact h3
  ·rw [t1,t2];exact h3.symm
 have toR:∀ i,i < S.nodes.length->CC S.nodes P i (Internal.root (S.ab.set g k) i):=λ i h=>by
  have h1:=toR i h
  rw [J.root T i h]
  split
  ·exact(‹Internal.root S.ab i=g› ▸ h1).trans hac.symm
  ·exact h1
 exact(toR i hi).trans (e▸(toR j hj).symm)
theorem JW.usr (i:Nat)(d:Nd)(hd:S.nodes[i]? = some d)(q:Nat)(hq:q∈d.2):i∈uu (jn S a c r k g lk lg) (Internal.root (S.ab.set g k) q):=by
 have hql:=(T.kids d (ap hd)).2 q hq
 have:=T.usr i d hd q hq
 show i∈((upd (upd S.U g none) k (some (lk ++ lg))) (Internal.root (S.ab.set g k) q)).getD []
 rw [J.root T q hql]
 by_cases e:Internal.root S.ab q=g
 ·rw [aB e,zbT]
  rw [e,J.ug T]at this
  exact List.mem_append_right _ this
 ·rw [aw e]
  by_cases e2:Internal.root S.ab q=k
  ·rw [e2,zbT]
   rw [e2,J.uk T]at this
   exact cy _ this
  ·rw [upd2 e2 e];exact this
theorem JW.dom (q:Nat)(hq:(S.ab.set g k)[q]? = some q):∃ l,(upd (upd S.U g none) k (some (lk ++ lg))) q=some l:=by
 by_cases e:q=k
 ·rw [e,zbT];exact⟨_,rfl⟩
 ·have e2:q≠g:=λ e2=>by
   subst e2
   rw [List.getElem?_set_self (List.getElem?_eq_some_iff.mp J.hg).1]at hq
   exact e (Option.some.inj hq).symm
  rw [upd2 e e2]
  rw [ch (λ h=>e2 h.symm)]at hq
  exact T.dom q hq
theorem JW.dom' (q:Nat)(l:List Nat)(hq:(upd (upd S.U g none) k (some (lk ++ lg))) q=some l):(S.ab.set g k)[q]? = some q:=by
 rcases zhf hq with ⟨e,_⟩ | ⟨_,e2,h⟩
 ·rw [e,ch (bu J.kg)];exact J.hk
 ·rw [ch (λ h=>e2 h.symm)];exact T.dom' q l h
theorem JW.ult (q:Nat)(l:List Nat)(hq:(upd (upd S.U g none) k (some (lk ++ lg))) q=some l)(i:Nat)(hi:i∈l):i < S.nodes.length:=by
 rcases zhf hq with ⟨_,e⟩ | ⟨_,_,h⟩
 ·subst e
  exact(List.mem_append.mp hi).elim (T.ult _ _ J.ek i) (T.ult _ _ J.eg i)
 ·exact T.ult q l h i hi
theorem JW.ll (i:Nat)(l:List Nat)(hl:(S.lots.set k (S.lots.getD k [] ++ S.lots.getD g []))[i]? = some l):l.Nodup/\∀ x∈l,x < S.nodes.length/\Internal.root (S.ab.set g k) x=Internal.root (S.ab.set g k) i:=by
 have rs:∀ {c},S.ab[c]? = some c->Internal.root S.ab c=c:=λ {c} h=>zak (by rw [zjz h];exact bj _)
 have up:∀ {c l},S.lots[c]? = some l->∀ x∈l,x < S.nodes.length/\Internal.root (S.ab.set g k) x=Internal.root (S.ab.set g k) c:=λ {c l} h x hx =>
  have ⟨a1,a2⟩:=(T.ll c l h).2 x hx
  ⟨a1,J.mono T _ _ a1 (T.lots▸(List.getElem?_eq_some_iff.mp h).1) a2⟩
 rcases ziK hl with ⟨rfl,rfl⟩ | ⟨_,h⟩
 ·have h1:=zib (T.lots.symm▸J.kn T)
  have h2:=zib (T.lots.symm▸J.gn T)
  refine⟨List.nodup_append.mpr ⟨(T.ll _ _ h1).1,(T.ll _ _ h2).1,λ x hx y hy q=>?_⟩,λ x hx=>(List.mem_append.mp hx).elim (up h1 x) λ h=>?_⟩
  ·exact aF J.kg ((rs J.hk).symm.trans (((T.ll _ _ h1).2 x hx).2.symm.trans ((q▸((T.ll _ _ h2).2 y hy).2).trans (rs J.hg))))
  ·have:=up h2 x h
   exact⟨this.1,this.2.trans (by rw [J.root T _ (J.gn T),J.root T _ (J.kn T),rs J.hg,rs J.hk,aB rfl,aw (aF J.kg)])⟩
 ·exact⟨(T.ll i l h).1,up h⟩
theorem JW.phi:phi (jn S a c r k g lk lg)+10<=phi S:=by
 show (S.wait ++ lg).length+110 * nR (S.ab.set g k)+10<=S.wait.length+110 * nR S.ab
 have hlg:=T.ul_le J.eg
 have hnR:=ziW J.hg (k:=k) (aF J.kg)
 have hnp:=zjD J.hg
 rw [aC];exact nqQ ‹_› ‹_›
theorem JW.und (ws:List Nat):Und (((jn S a c r k g lk lg).wW ws).wC S.changes) (.edge k lk.length g lg) (S.wW ws):=by
 have hz:∀ {n},n+Internal.phi S<=b->n<=10000:=λ h=>nT (aS _ _) (nT h (nT T.b5 (by decide)))
 obtain⟨gk,gg,e2⟩:=zh4 (aF J.kg) (T.lots.symm▸J.kn T)
 have hlg:=T.ul_le J.eg
 have hlk:=T.ul_le J.ek
 have n10:=T.n10
 have ls:(S.ab.set g k).length=S.nodes.length:=List.length_set.trans T.ab
 refine UD.mk S.edges (a,c,r) rfl (hz T.b2) (λ e=>absurd e (aF J.kg)) λ Y=>UE.mk S.forest _ S.mg (lk ++ lg) rfl (hz T.b4) rfl (nT (aS _ _) (nT (aG T.mgl) (nT n10 (by decide)))) (nT (aG ls) (nT n10 (by decide))) ?_ (bP (J.kn T) ls.symm) (bP (J.gn T) ls.symm) zbT ?_ (upd2g (aF J.kg)) ?_ (nT hlk (by decide)) ?_ (λ i l hl=>?_) ?_
 ·exact List.length_set.trans (T.lots.trans ls.symm)
 ·rw [aC];exact nT (bY hlk hlg) (by decide)
 ·exact nT (Nat.sub_le _ _) (nT (aG T.ulen) (nT (aY _ _) (nT (aG T.mgl) (nT n10 (by decide)))))
 ·refine nT (aG (cw _ gg)) (nT ?_ (aG (cw _ gk).symm))
  rw [aC];exact aY _ _
 ·rcases ziK hl with ⟨_,rfl⟩ | ⟨_,h⟩
  ·rw [aC];exact nT (bY (T.llen (zib (T.lots.symm▸J.kn T))) (T.llen (zib (T.lots.symm▸J.gn T)))) (by decide)
  ·exact nT (T.llen h) (by decide)
 ·have e1:(S.ab.set g k).set g g=S.ab:=(List.set_set ..).trans (zgX J.hg)
  have e4:S.ul - 1+1=S.ul:=Nat.sub_add_cancel (T.ulen▸zjD J.hg)
  exact(zjM e1 e2 (zjp J.ek J.eg) e4).symm
end
theorem TI.joinN {S0 S:St}{P:Nat->Nat->Prop}{b:Nat}{x:Option Nat}(T:TI S0 P b x S){a c:Nat}{r:List Str}(ha:a < S.nodes.length)(hc:c < S.nodes.length)(hne:root S.ab a≠root S.ab c)(hs:CC S.nodes P a c) :
  TI S0 P b x (ljoin S a c r)/\(∀ i,i < S.nodes.length->root (ljoin S a c r).ab i=if root S.ab i=hi S a c then lo S a c else root S.ab i)/\(∀ i,i < S.nodes.length->nd (ljoin S a c r) i=nd S i∨i∈(ljoin S a c r).wait)/\phi (ljoin S a c r)<=phi S:=by
 have ra:=zaJ T.le a (T.ab.symm▸ha)
 have rc:=zaJ T.le c (T.ab.symm▸hc)
 have hk:S.ab[lo S a c]? = some (lo S a c):=zkb ra rc
 have hg:S.ab[hi S a c]? = some (hi S a c):=zj8 ra rc
 obtain⟨lk,ek⟩:=T.dom _ hk
 obtain⟨lg,eg⟩:=T.dom _ hg
 have J:JW S a c (lo S a c) (hi S a c) lk lg:=⟨hk,hg,zhN hne,ek,eg,zcg _ _⟩
 rw [zfe hne,J.uk T,J.ug T]
 clear hk hg ek eg ra rc hne
 generalize lo S a c=k at J
 generalize hi S a c=g at J
 have hp:=J.phi T (r:=r)
 refine⟨⟨T.n10,List.length_set.trans T.ab,List.length_set.trans T.lots,T.le.set (az J.kg),T.kids,T.made,J.snd T ha hc hs,λ p hp=>?_,λ i hi=>?_,J.usr T,J.dom T,J.dom' T,(zje (J.kn T) (J.gn T) (aF J.kg) J.ek J.eg).symm▸T.tot,?_,?_,J.ll T,λ i h=>(List.mem_append.mp h).elim (T.wlt i) (T.ult g lg J.eg i),J.ult T,len1S T.b1 hp,len1S T.b2 hp,nT (aT (Nat.le_of_add_right_le hp) _) T.b3,len1S T.b4 hp,T.b5,T.back1 rfl (J.und T)⟩,J.root T,J.nd T,Nat.le_of_add_right_le hp⟩
 ·obtain⟨p1,q8⟩:=T.kn p hp;refine E14 q8 λ d p2 p3 p4 p5=>?_;clear q8
  exact⟨p1,d,p2,p3,p4,λ q u v hu hv=>⟨(p5 q u v hu hv).1,J.mono T u v (p5 q u v hu hv).1 ((T.kids d (ap p2)).2 v (ap hv)) (p5 q u v hu hv).2⟩⟩
 ·rcases T.cov i hi with h | h | ⟨m,h1,h2⟩
  ·exact .inl (cy _ h)
  ·exact .inr (.inl h)
  ·rcases J.nd T (r:=r) i hi with h | h
   ·exact .inr (.inr ⟨m,h▸h1,J.mono T m i (T.kn _ (zcB h1)).1 hi h2⟩)
   ·exact .inl h
 ·show S.ul - 1=nR (S.ab.set g k)
  rw [T.ulen,<- ziW J.hg (aF J.kg)];rfl
 ·show (S.mg ++ [(k,g)]).length+nR (S.ab.set g k)=S.nodes.length
  rw [aC,<- T.mgl,<- ziW J.hg (aF J.kg)]
  exact bB _ _ _
theorem TI.up {S0 S:St}{P:Nat->Nat->Prop}{b b':Nat}{x:Option Nat}(T:TI S0 P b x S)(h:b<=b')(h':b'<=4000):TI S0 P b' x S :=
 ⟨T.n10,T.ab,T.lots,T.le,T.kids,T.made,T.snd,T.kn,T.cov,T.usr,T.dom,T.dom',T.tot,T.ulen,T.mgl,T.ll,T.wlt,T.ult,nT T.b1 h,nT T.b2 h,nT T.b3 h,nT T.b4 h,h',T.back⟩
theorem TI.mono {S0 S:St}{P P':Nat->Nat->Prop}{b:Nat}{x:Option Nat}(T:TI S0 P b x S)(h:∀ a c,P a c->P' a c):TI S0 P' b x S :=
 ⟨T.n10,T.ab,T.lots,T.le,T.kids,T.made,λ a c ha hc e=>(T.snd a c ha hc e).mono λ a c p=>.base (h a c p),T.kn,T.cov,T.usr,T.dom,T.dom',T.tot,T.ulen,T.mgl,T.ll,T.wlt,T.ult,T.b1,T.b2,T.b3,T.b4,T.b5,T.back⟩
theorem TI.pop {S0 S:St}{P:Nat->Nat->Prop}{b:Nat}(T:TI S0 P b none S){ws:List Nat}{n:Nat}(e:S.wait=ws ++ [n]):TI S0 P (b - 1) (some n) (S.wW ws):=by
 have hp:phi (S.wW ws)+1=phi S:=by show ws.length+110 * nR S.ab+1=S.wait.length+110 * nR S.ab;rw [e,aC,bS];exact bB _ _ _
 have c1:=T.b1
 have c2:=T.b2
 have c3:=T.b3
 have c4:=T.b4
 have c5:=T.b5
 refine⟨T.n10,T.ab,T.lots,T.le,T.kids,T.made,T.snd,T.kn,λ i hi=>?_,T.usr,T.dom,T.dom',T.tot,T.ulen,T.mgl,T.ll,λ i h=>T.wlt i (by rw [e];exact cy _ h),T.ult,arQ c1 hp,arQ c2 hp,arQ c3 hp,arQ c4 hp,nT (Nat.sub_le _ _) c5,T.back⟩
 ·rcases T.cov i hi with h | h | h
  ·rw [e]at h
   rcases List.mem_append.mp h with h | h
   ·exact .inl h
   ·rw [aZ]at h;exact .inr (.inl (by rw [h]))
  ·cases h
  ·exact .inr (.inr h)
theorem zhd {k:Nd}{m:Nat}{r:List (Nd × Nat)}:∀ {kn:List (Nd × Nat)},kget kn k=some m->kget (kn ++ r) k=some m
 | (a,v) :: l,h=>by
  unfold kget at h
  show kget ((a,v) :: (l ++ r)) k=_
  unfold kget
  by_cases e:a=k
  ·rw [aB e]at h ⊢;exact h
  ·rw [aw e]at h ⊢;exact zhd h
structure Keeps (S S':St):Prop where
 nodes:S'.nodes=S.nodes
 mark:S'.mark=S.mark
 like:∀ a c,a < S.nodes.length->c < S.nodes.length->root S.ab a=root S.ab c->root S'.ab a=root S'.ab c
theorem Keeps.rfl {S:St}:Keeps S S:=⟨_root_.rfl,_root_.rfl,λ Y Y Y Y h=>h⟩
theorem Keeps.trans {S S' S2:St}(x:Keeps S S')(y:Keeps S' S2):Keeps S S2:=⟨y.nodes.trans x.nodes,y.mark.trans x.mark,λ a c ha hc h=>y.like a c (by rw [x.nodes];exact ha) (by rw [x.nodes];exact hc) (x.like a c ha hc h)⟩
theorem zby {S:St}{a c:Nat}{r:List Str}:(ljoin S a c r).nodes=S.nodes/\(ljoin S a c r).mark=S.mark:=by
 by_cases h:root S.ab a=root S.ab c
 ·rw [zc1 h];exact⟨rfl,rfl⟩
 ·rw [zfe h];exact⟨rfl,rfl⟩
theorem TI.join {S0 S:St}{P:Nat->Nat->Prop}{b:Nat}{x:Option Nat}(T:TI S0 P b x S)(hb:b < 4000){a c:Nat}{r:List Str}(ha:a < S.nodes.length)(hc:c < S.nodes.length)(hs:CC S.nodes P a c):TI S0 P (b+1) x (ljoin S a c r)/\Keeps S (ljoin S a c r)/\root (ljoin S a c r).ab a=root (ljoin S a c r).ab c:=by
 by_cases h:root S.ab a=root S.ab c
 ·refine⟨T.joinL hb h,?_⟩
  rw [zc1 h];exact⟨⟨rfl,rfl,λ Y Y Y Y h=>h⟩,h⟩
 ·refine E04 (T.joinN (r:=r) ha hc h hs) λ T' h1 h2 _=>?_
  refine⟨T'.up (by exact bA _) hb,⟨zby.1,zby.2,λ i j hi hj e=>by rw [h1 i hi,h1 j hj,e]⟩,?_⟩
  rw [h1 a ha,h1 c hc]
  unfold lo hi
  exact mxe _ _
theorem TI.look {S0 T:St}{P:Nat->Nat->Prop}{b n:Nat}(I:TI S0 P b (some n) T)(hb:b < 4000)(hn:n < T.nodes.length):TI S0 P (b+1) none (llook T n)/\Keeps T (llook T n)/\phi (llook T n)<=phi T:=by
 have m1:look1 T n=T:=aw (by rw [I.made];exact aF (by assumption))
 unfold llook
 rw [m1]
 refine E12 (zfE hn) λ d d1 d2=>?_
 induction hk:kget T.known (nd T n)with
 | none =>
  have m2:look2 T n=T.wC (T.changes ++ [.known (nd T n)]):=aB hk
  rw [m2]
  have m3:hlook (T.wC (T.changes ++ [.known (nd T n)])) n=(T.wC (T.changes ++ [.known (nd T n)])).wK (T.known ++ [(nd T n,n)]):=by
   unfold hlook
   have:kget (T.wC (T.changes ++ [.known (nd T n)])).known (nd (T.wC (T.changes ++ [.known (nd T n)])) n)=none:=hk
   rw [this];rfl
  rw [m3]
  refine⟨?_,⟨rfl,rfl,λ Y Y Y Y h=>h⟩,an _⟩
  refine⟨I.n10,I.ab,I.lots,I.le,I.kids,I.made,I.snd,?_,?_,I.usr,I.dom,I.dom',I.tot,I.ulen,I.mgl,I.ll,I.wlt,I.ult,len1R I.b1,aQ I.b2,len1R I.b3,aQ I.b4,hb,I.back1 rfl λ ws=>UK.mk _ _ rfl hk (nT (aS _ _) (nT I.b3 (nT I.b5 (by decide)))) rfl⟩
  ·intro p hp
   rcases List.mem_append.mp (show p∈T.known ++ [(nd T n,n)]from hp)with h | h
   ·exact I.kn p h
   ·rw [aZ]at h
    subst h
    refine⟨hn,d,d1,by rw [d2];rfl,by rw [d2];unfold nkey;simp,λ k u v hu hv=>?_⟩
    rw [d2]at hu
    have hu':(d.2.map (root T.ab))[k]? = some u:=hu
    rw [aD,hv]at hu'
    cases hu'
    have hvl:=(I.kids d (ap d1)).2 v (ap hv)
    exact⟨by have:=zck I.le v (by rw [I.ab];exact hvl);rw [I.ab]at this;exact this,zdC I.le (by rw [I.ab];exact hvl)⟩
  ·intro i hi
   rcases I.cov i hi with h | h | ⟨m,h1,h2⟩
   ·exact .inl h
   ·cases h
    exact .inr (.inr ⟨n,zdM hk,rfl⟩)
   ·exact .inr (.inr ⟨m,zhd h1,h2⟩)
 | some m =>
  have m2:look2 T n=T:=aw (by rw [hk];intro e;cases e)
  rw [m2]
  have hm:=(I.kn _ (zcB hk))
  by_cases h:root T.ab m=root T.ab n
  ·have m3:hlook T n=T:=by unfold hlook;rw [hk];exact aB h
   rw [m3]
   exact⟨(I.cover (.inr ⟨m,hk,h⟩)).up (by exact bA _) hb,Keeps.rfl,an _⟩
  ·have m3:hlook T n=ljoin T m n likeS:=by unfold hlook;rw [hk];exact aw h
   rw [m3]
   obtain⟨hml,q8⟩:=hm;refine E14 q8 λ e e1 e2 e3 e4=>?_;clear q8
   have hml:m < T.nodes.length:=hml
   have hs:CC T.nodes P m n:=by
    rw [d2]at e2 e3 e4
    have e3':d.2.length=e.2.length:=by rw [<- e3];unfold nkey;simp
    refine .cong e1 d1 e2.symm e3'.symm λ k u v hu hv=>?_
    have h1:(nkey T.ab d).2[k]? = some (root T.ab v):=by
     show (d.2.map (root T.ab))[k]? = _
     rw [aD,hv];rfl
    have hul:=(I.kids e (ap e1)).2 u (ap hu)
    have hvl:=(I.kids d (ap d1)).2 v (ap hv)
    have h2:=(e4 k _ _ h1 hu).2
    rw [zdC I.le (by rw [I.ab];exact hvl)]at h2
    exact I.snd u v hul hvl h2.symm
   refine E04 (I.joinN (r:=likeS) hml hn h hs) λ J h1 h2 h5=>?_
   have J2:=J.cover (by
    rcases h2 n hn with h3 | h3
    ·refine .inr ⟨m,?_,?_⟩
     ·rw [h3]
      have:(ljoin T m n likeS).known=T.known:=by rw [zfe h];rfl
      rw [this];exact hk
     ·rw [h1 m hml,h1 n hn]
      unfold lo hi
      exact mxe _ _
    ·exact .inl h3)
   refine⟨J2.up (by exact bA _) hb,⟨zby.1,zby.2,λ i j hi hj e=>by rw [h1 i hi,h1 j hj,e]⟩,h5⟩
theorem zjV {l:List Nat}(h:l≠[]):∃ ws n,l=ws ++ [n]:=⟨l.dropLast,l.getLast h,(List.dropLast_concat_getLast h).symm⟩
theorem TI.run {S0:St}{P:Nat->Nat->Prop}{b:Nat}:∀ (m:Nat) {S:St},TI S0 P b none S->phi S<=m->∃ k S',Run k S S'/\TI S0 P b none S'/\S'.wait=[]/\Keeps S S'
 | m,S,T,h=>by
  by_cases hw:S.wait=[]
  ·exact⟨0,S,.done hw,T,hw,Keeps.rfl⟩
  ·refine E21 (zjV hw) λ ws n e=>?_
   have hn:n < S.nodes.length:=T.wlt n (by rw [e];simp)
   have T1:=T.pop e
   have hp:phi (S.wW ws)+1=phi S:=by show ws.length+110 * nR S.ab+1=S.wait.length+110 * nR S.ab;rw [e,aC,bS];exact bB _ _ _
   have hb:=T.b1
   have hb5:=T.b5
   have b1:=arP hb hp
   obtain⟨T2,k2,p2⟩:=T1.look (au (Nat.sub_lt b1 (by decide)) hb5) hn
   have T2:TI S0 P b none (llook (S.wW ws) n):=by
    have:b - 1+1=b:=Nat.sub_add_cancel b1
    rw [this]at T2;exact T2
   refine E24 (TI.run (m - 1) T2 (nT p2 (Nat.le_sub_of_add_le (nT (aG hp) h)))) λ k S' r T3 w3 k3=>?_
   exact⟨k+1,S',.step e T.wf (nT (nT (aS _ _) hb) (nT hb5 (by decide))) hn r,T3,w3,Keeps.trans ⟨k2.nodes,k2.mark,k2.like⟩ k3⟩
termination_by m=>m
decreasing_by
 exact Nat.sub_lt (nT (nT (aY _ _) (aG hp)) h) (by decide)
theorem TI.closed {S0 S:St}{P:Nat->Nat->Prop}{b:Nat}(T:TI S0 P b none S)(hw:S.wait=[])(i j:Nat)(d e:Nd)(hi:S.nodes[i]? = some d)(hj:S.nodes[j]? = some e)(h1:d.1=e.1)(h2:d.2.map (root S.ab)=e.2.map (root S.ab)):root S.ab i=root S.ab j:=by
 have il:=(List.getElem?_eq_some_iff.mp hi).1
 have jl:=(List.getElem?_eq_some_iff.mp hj).1
 have en:nd S i=nd S j:=by
  refine E12 (zfE il) λ d' d1 d2=>?_
  refine E12 (zfE jl) λ e' e1 e2=>?_
  rw [hi]at d1;cases d1
  rw [hj]at e1;cases e1
  rw [d2,e2];unfold nkey;rw [h1,h2]
 rcases T.cov i il with h | h | ⟨m,m1,m2⟩
 ·rw [hw]at h;cases h
 ·cases h
 ·rcases T.cov j jl with h | h | ⟨m',m3,m4⟩
  ·rw [hw]at h;cases h
  ·cases h
  ·rw [en,m3]at m1;cases m1
   exact m2.symm.trans m4
theorem TI.rebase {S0 S:St}{P:Nat->Nat->Prop}{b:Nat}{x:Option Nat}(T:TI S0 P b x S)(m:Mark):TI (S.wMk m) P b x (S.wMk m) :=
 ⟨T.n10,T.ab,T.lots,T.le,T.kids,T.made,T.snd,T.kn,T.cov,T.usr,T.dom,T.dom',T.tot,T.ulen,T.mgl,T.ll,T.wlt,T.ult,T.b1,T.b2,T.b3,T.b4,T.b5,⟨0,λ Y=>.done⟩⟩
theorem TI.trun {S0:St}{P:Nat->Nat->Prop}:∀ (ps:List (Nat × Nat)) {b:Nat} {S:St},TI S0 P b none S->(∀ p∈ps,p.1 < S.nodes.length/\p.2 < S.nodes.length/\CC S.nodes P p.1 p.2)->b+ps.length<=4000 ->
  ∃ S',TRun ps S S'/\TI S0 P (b+ps.length) none S'/\S'.wait=[]/\Keeps S S'/\∀ p∈ps,root S'.ab p.1=root S'.ab p.2
 | [],b,S,T,_,_=>by
  refine E24 (T.run (phi S) (an _)) λ k S' r T' w kp=>?_
  exact⟨S',.nil r,T',w,kp,by simp⟩
 | (a,c) :: ps,b,S,T,h,hb=>by
  rw [bx]at hb
  obtain⟨ha,hc,hs⟩:=h (a,c) (.head _)
  obtain⟨T1,k1,e1⟩:=T.join (r:=trialS) (by exact nrq ‹_›) ha hc hs
  have n1:=k1.nodes
  refine E15 (TI.trun ps T1 (λ p hp=>by rw [n1];exact h p (.tail _ hp)) (by exact nsi ‹_›)) λ S' r T' w kp all=>?_
  refine⟨S',.cons T.wf (by have:=T.b1;exact nsf ‹_› ‹_›) ha hc r,by rw [bx,Nat.add_comm ps.length 1,<- Nat.add_assoc];exact T',w,k1.trans kp,λ p hp=>?_⟩
  rcases List.mem_cons.mp hp with rfl | hp
  ·exact kp.like a c (by rw [n1];exact ha) (by rw [n1];exact hc) e1
  ·exact all p hp
structure CI (P:Nat->Nat->Prop)(S:St):Prop where
 T:TI S P 3000 none S
 wait:S.wait=[]
 mark:S.mark = .no
 told:∀ a c,P a c->a < S.nodes.length/\c < S.nodes.length/\root S.ab a=root S.ab c
noncomputable def plus (P:Nat->Nat->Prop)(ps:List (Nat × Nat)):Nat->Nat->Prop:=λ a c=>P a c∨(a,c)∈ps
open Classical in
noncomputable def wd (N:List Nd)(P:Nat->Nat->Prop)(ps:List (Nat × Nat))(a c:Nat):Bool:=decide (CC N (plus P ps) a c)
theorem ziS {N:List Nd}{P:Nat->Nat->Prop}{ps:List (Nat × Nat)}{a c:Nat}:wd N P ps a c=true↔CC N (plus P ps) a c:=by unfold wd;simp
theorem CI.calm {P:Nat->Nat->Prop}{S:St}(C:CI P S):Calm S:=⟨C.T.wf.b,C.mark,C.wait,by have:=C.T.b1;exact nT (aS _ _) (nT ‹_› (by decide))⟩
theorem ziH {S:St}{m:Mark}(h1:S.wait=[])(h2:S.mark = .no):((S.wMk m).wMk .no).wW []=S:=by
 cases S;cases h1;cases h2;rfl
theorem CI.would {P:Nat->Nat->Prop}{S:St}(C:CI P S)(ps:List (Nat × Nat))(a c:Nat)(hz:ps.length<=900)(hr:∀ p∈ps,p.1 < S.nodes.length/\p.2 < S.nodes.length)(ha:a < S.nodes.length)(hc:c < S.nodes.length):Would S ps a c (wd S.nodes P ps a c):=by
 have T1:TI (S.wMk (.on S.changes.length)) (plus P ps) 3000 none (S.wMk (.on S.changes.length)):=(C.T.rebase _).mono λ a c h=>.inl h
 obtain⟨S',r,T',w,kp,all⟩:=T1.trun (ps ++ [(a,a),(c,c)]) (λ p hp=>by
  rcases List.mem_append.mp hp with h | h
  ·exact⟨(hr p h).1,(hr p h).2,.base (.inr h)⟩
  ·simp at h
   rcases h with rfl | rfl
   ·exact⟨ha,ha,.refl⟩
   ·exact⟨hc,hc,.refl⟩) (by rw [aC];simp;exact nsh ‹_›)
 have kn:S'.nodes=S.nodes:=kp.nodes
 obtain⟨n,bk⟩:=T'.back
 refine⟨n,S',(S.wMk (.on S.changes.length)).wW S'.wait,r,bk S'.wait,T'.wf.b,kp.mark,kn,rfl,?_,?_⟩
 ·exact ziH (m:=.no) C.wait C.mark
 ·rw [bW,ziS,decide_eq_true_iff]
  constructor
  ·intro h
   refine CC.like (f:=root S'.ab) (N:=S.nodes) (λ x y h=>?_) (λ i j d e hi hj=>T'.closed w i j d e (by rw [kn];exact hi) (by rw [kn];exact hj)) h
   rcases h with h | h
   ·obtain⟨h1,h2,h3⟩:=C.told x y h
    exact⟨h1,h2,kp.like x y h1 h2 h3⟩
   ·exact⟨(hr _ h).1,(hr _ h).2,all _ (cy _ h)⟩
  ·intro h
   have:=T'.snd a c (by rw [kn];exact ha) (by rw [kn];exact hc) h
   rw [kn]at this;exact this
theorem CI.like {P:Nat->Nat->Prop}{S:St}(C:CI P S){a c:Nat}(ha:a < S.nodes.length)(hc:c < S.nodes.length):root S.ab a=root S.ab c↔CC S.nodes P a c :=
 ⟨λ h=>C.T.snd a c ha hc h,λ h=>CC.like C.told (λ i j d e=>C.T.closed C.wait i j d e) h⟩
theorem zfo {nodes:List Nd}:∀ {i j:Nat} {d:Nd},nodes.Nodup->nodes[i]? = some d->kget (nodes.zipIdx j) d=some (j+i):=by
 induction nodes with
 | nil=>intro i j d _ h;cases h
 | cons a r ih =>
  intro i j d nd h
  rw [bL]at nd
  rw [List.zipIdx_cons]
  unfold kget
  induction i with
  | zero=>cases h;rw [aB rfl];rfl
  | succ i =>
   have h':r[i]? = some d:=h
   rw [aw (show ¬ a=d from λ e=>nd.1 (by rw [e];exact ap h')),ih nd.2 h']
   congr 1;exact bB _ _ _
theorem zfD {nodes:List Nd}{c i:Nat}:i∈users nodes c↔∃ d,nodes[i]? = some d/\c∈d.2:=by
 unfold users
 rw [List.mem_filterMap]
 constructor
 ·rintro⟨⟨d,j⟩,h1,h2⟩
  have h3:=List.mem_zipIdx_iff_getElem?.mp h1
  by_cases h:d.2.contains c
  ·rw [aB h]at h2;cases h2;exact⟨d,h3,by simpa using h⟩
  ·rw [aw h]at h2;cases h2
 ·rintro⟨d,h1,h2⟩
  exact⟨(d,i),List.mem_zipIdx_iff_getElem?.mpr h1,by rw [aB (by simpa using h2)]⟩
theorem ziN {f:Nat->Nat}{m:Nat}:∀ {n:Nat},(∀ c,c < n->f c<=m)->sumR n f<=n * m
 | 0,_=>by simp [sumR]
 | n+1,h=>by
  unfold sumR
  have:=ziN (f:=f) (m:=m) (n:=n) λ c hc=>h c (by exact bf (by assumption))
  have:=h n (by exact an _)
  rw [Nat.add_mul];exact nrm ‹_› ‹_›
theorem zeB (n:Nat):nR (List.range n)=n:=by
 unfold nR
 rw [aL]
 have:∀ m,m<=n->sumR m (isR (List.range n))=m:=λ m=>by
  induction m with
  | zero=>intro _;rfl
  | succ m ih =>
   intro h
   unfold sumR
   rw [ih (by exact az (by assumption))]
   unfold isR
   rw [aB]
   rw [bC (by assumption)]
 exact this n (an _)
theorem Built.ti {nodes:List Nd}(O:Okn nodes)(hn:nodes.length<=10):TI (Built nodes) (λ Y Y=>False) 1500 none (Built nodes):=by
 have Z:=Built.wf O
 have hab:∀ c,(List.range nodes.length)[c]? = some c↔c < nodes.length:=λ c=>by
  constructor
  ·intro h
   have:=(List.getElem?_eq_some_iff.mp h).1
   simpa using this
  ·intro h;rw [bC h]
 have hroot:∀ c,root (Built nodes).ab c=c:=λ c=>zc0
 have hnd:∀ i d,nodes[i]? = some d->nd (Built nodes) i=d:=λ i d h=>by
  unfold nd nkey
  have e:(Built nodes).nodes.getD i ("",[])=d:=by
   show nodes.getD i ("",[])=d
   rw [aA,h];rfl
  rw [e]
  have:∀ xs:List Nat,xs.map (root (Built nodes).ab)=xs:=λ xs=>by
   induction xs with
   | nil=>rfl
   | cons x xs ih=>rw [aH,ih,hroot]
  rw [this]
 have hphi:phi (Built nodes)=110 * nodes.length:=by
  show ([]:List Nat).length+110 * nR (List.range nodes.length)=_
  rw [zeB];simp
 refine⟨hn,Z.ab,Z.lots,Z.le,λ d h=>⟨(O.kids d h).1,(O.kids d h).2⟩,rfl,λ a c ha hc e=>?_,λ p hp=>?_,λ i hi=>?_,λ i d hd k hk=>?_,λ c hc=>?_,λ c l h=>?_,?_,?_,?_,λ i l h=>?_,λ i h=>(by cases h),λ c l h i hi=>?_,?_,?_,?_,?_,by exact aY _ _,⟨0,λ Y=>.done⟩⟩
 ·rw [hroot,hroot]at e;rw [e];exact .refl
 ·obtain⟨d,i⟩:=p
  have h1:=List.mem_zipIdx_iff_getElem?.mp (show (d,i)∈nodes.zipIdx from hp)
  refine⟨(List.getElem?_eq_some_iff.mp h1).1,d,h1,rfl,rfl,λ k u v hu hv=>?_⟩
  have e:u=v:=by have h2:d.2[k]? = some u:=hu;rw [hv]at h2;cases h2;rfl
  subst e
  exact⟨(O.kids d (ap h1)).2 u (ap hv),rfl⟩
 ·have h1:nodes[i]? = some nodes[i]:=al hi
  refine .inr (.inr ⟨i,?_,rfl⟩)
  rw [hnd i _ h1]
  have:=zfo (j:=0) O.nodup h1
  rw [Nat.zero_add]at this;exact this
 ·rw [hroot]
  have hkl:=(O.kids d (ap hd)).2 k hk
  show i∈(if k < nodes.length then some (users nodes k)else none).getD []
  rw [aB hkl]
  exact zfD.mpr ⟨d,hd,hk⟩
 ·exact⟨users nodes c,aB ((hab c).mp hc)⟩
 ·have h':(if c < nodes.length then some (users nodes c)else none)=some l:=h
  show (List.range nodes.length)[c]? = some c
  rw [hab]
  split at h'
  ·assumption
  ·cases h'
 ·show sumR nodes.length (lenU (Built nodes).U)<=100
  refine nT (ziN (m:=10) λ c hc=>?_) (by lia)
  have:lenU (Built nodes).U c=(users nodes c).length:=by
   unfold lenU
   show ((if c < nodes.length then some (users nodes c)else none).getD []).length=_
   rw [aB hc];rfl
  rw [this]
  exact nT (zeF nodes c) hn
 ·show nodes.length=nR (List.range nodes.length)
  rw [zeB]
 ·show 0+nR (List.range nodes.length)=nodes.length
  rw [zeB];exact Nat.zero_add _
 ·have h':((List.range nodes.length).map λ i=>[i])[i]? = some l:=h
  rw [aD]at h'
  refine E12 (Option.map_eq_some_iff.mp h') λ j hj q9=>?_;subst q9
  have hjl:=(List.getElem?_eq_some_iff.mp hj).1
  rw [aL]at hjl
  have:i=j:=by rw [bC (by have:=(List.getElem?_eq_some_iff.mp hj).1;rwa [aL]at this)]at hj;exact Option.some.inj hj
  subst this
  exact⟨by simp,λ x hx=>by rw [aZ]at hx;subst hx;exact⟨hjl,rfl⟩⟩
 ·have h':(if c < nodes.length then some (users nodes c)else none)=some l:=h
  split at h'
  ·cases h'
   obtain⟨d,hd,_⟩:=zfD.mp hi
   exact(List.getElem?_eq_some_iff.mp hd).1
  ·cases h'
 ·rw [hphi];show (bch nodes).length+_<=_;rw [zio];lia
 ·rw [hphi];show 0+_<=_;lia
 ·rw [hphi];show nodes.zipIdx.length+_<=_;simp;exact nrn ‹_›
 ·rw [hphi];show 0+_<=_;lia
theorem zjt {S:St}{m:Mark}(h:S.mark=m):S.wMk m=S:=by
 cases S;cases h;rfl
theorem CI.of {S0 S:St}{P:Nat->Nat->Prop}{b:Nat}(T:TI S0 P b none S)(hb:b<=3000)(hw:S.wait=[])(hm:S.mark = .no)(ht:∀ a c,P a c->a < S.nodes.length/\c < S.nodes.length/\root S.ab a=root S.ab c):CI P S:=by
 refine⟨?_,hw,hm,ht⟩
 have:=(T.up hb (by decide)).rebase .no
 have e:S.wMk .no=S:=zjt hm
 rw [e]at this;exact this
/-! the law's own closing,plainly -/
noncomputable def lb (L:List Nat)(i:Nat):Nat:=L.getD i 0
noncomputable def merge1 (L:List Nat)(u v:Nat):List Nat:=L.map λ x=>if x=v then u else x
noncomputable def hereL (L:List Nat)(d:Nd):Nd:=(d.1,d.2.map (lb L))
noncomputable def cntL (n:Nat)(L:List Nat):Nat:=sumR n λ c=>if c∈L then 1 else 0
theorem zjh {L:List Nat}{d e:Nd}:hereL L d=hereL L e↔d.1=e.1/\d.2.map (lb L)=e.2.map (lb L):=by
 unfold hereL;rw [Prod.ext_iff]
theorem zjv {L:List Nat}{u v i:Nat}(h:i < L.length):lb (merge1 L u v) i=if lb L i=v then u else lb L i:=by
 unfold lb merge1
 rw [aA,aD,al h]
 rw [aA,al h]
 rfl
theorem ziI {L:List Nat}{i:Nat}(h:i < L.length):lb L i∈L:=by
 unfold lb
 rw [aA,al h]
 exact List.getElem_mem h
set_option tactic.hygienic true in
theorem zeq {L:List Nat}{n u v:Nat}(hu:u∈L)(hv:v∈L)(hvn:v < n)(h:u≠v):cntL n (merge1 L u v)+1=cntL n L:=by
 have:=zcv (f:=λ c=>if c∈L then 1 else 0) (g:=λ c=>if c∈merge1 L u v then 1 else 0) hvn λ c Y hc=>by
  have:c∈merge1 L u v↔c∈L:=by
   unfold merge1
   rw [List.mem_map]
   constructor
   ·intro q0;refine E12 (q0) λ x h1 h2=>?_;clear q0
    split at h2
    ·rw [<- h2];exact hu
    ·rw [<- h2];exact h1
   ·intro h1;exact⟨c,h1,aw hc⟩
  simp only [this]
 have e1:v∉merge1 L u v:=by
  unfold merge1
  rw [List.mem_map]
  intro q0;refine E12 (q0) λ x h1 h2=>?_;clear q0
  split at h2
  ·exact h h2
  ·rename_i h3;exact h3 h2
 rw [aB hv,aw e1]at this
 unfold cntL
 assumption
theorem rngN (n:Nat):rngV 0 (n:Int)=(List.range n).map VN:=by
 unfold rngV
 have:((n:Int) - 0).toNat=n:=by simp_all
 rw [this]
 refine List.map_congr_left λ i Y=>?_
 show V.int (0+(i:Int))=V.int i
 rw [Int.zero_add]
theorem minN (a b:Nat):(if (b:Int) < (a:Int)then (b:Int)else (a:Int))=((min a b:Nat):Int):=by split <;> lia
theorem maxN (a b:Nat):(if (b:Int) > (a:Int)then (b:Int)else (a:Int))=((max a b:Nat):Int):=by split <;> lia
/-! the sort by comparisons,where no two are alike -/
structure SO (n:Nat)(lt:Nat->Nat->Bool):Prop where
 tot:∀ i j,i < n->j < n->i≠j->lt i j=false->lt j i=true
 asy:∀ i j,i < n->j < n->lt i j=true->lt j i=false
 tr:∀ i j k,i < n->j < n->k < n->lt i j=true->lt j k=true->lt i k=true
structure PP (n:Nat)(p:Array Nat):Prop where
 perm:p.toList.Perm (List.range n)
theorem PP.size {n:Nat}{p:Array Nat}(h:PP n p):p.size=n:=by have:=h.perm.length_eq;simpa using this
theorem PP.lt {n:Nat}{p:Array Nat}(h:PP n p){k:Nat}(hk:k < n):p.getD k 0 < n:=by
 have hs:k < p.size:=by rw [h.size];exact hk
 have:p.getD k 0=p[k]:=by simp [Array.getD,hs]
 rw [this]
 exact List.mem_range.mp (h.perm.mem_iff.mp (Array.mem_toList_iff.mpr (Array.getElem_mem hs)))
theorem PP.inj {n:Nat}{p:Array Nat}(h:PP n p){k l:Nat}(hk:k < n)(hl:l < n)(e:k≠l):p.getD k 0≠p.getD l 0:=by
 have hs:k < p.size:=by rw [h.size];exact hk
 have hs':l < p.size:=by rw [h.size];exact hl
 have e1:p.getD k 0=p[k]:=by simp [Array.getD,hs]
 have e2:p.getD l 0=p[l]:=by simp [Array.getD,hs']
 rw [e1,e2]
 intro q
 have nd:p.toList.Nodup:=h.perm.nodup_iff.mpr List.nodup_range
 have:p.toList[k]? = p.toList[l]?:=by
  rw [al (by simpa using hs),al (by simpa using hs')]
  simpa using q
 exact e ((List.getElem?_inj (by simpa using hs) nd).mp this)
noncomputable def Asc (lt:Nat->Nat->Bool)(p:Array Nat)(b:Nat):Prop:=∀ i j,i < j->j < b->lt (p.getD i 0) (p.getD j 0)=true
noncomputable def Des (lt:Nat->Nat->Bool)(p:Array Nat)(b:Nat):Prop:=∀ i j,i < j->j < b->lt (p.getD j 0) (p.getD i 0)=true
theorem zez {p q:Array Nat}{i j:Nat}(h:p[i]? = q[j]?):p.getD i 0=q.getD j 0:=by
 rw [cI,cI,h]
section
variable {n:Nat}{lt:Nat->Nat->Bool}{cmp:Nat->Nat->(Bool->Shared->Prop)->Shared->Prop}{s:Shared}
theorem SO.t3 (O:SO n lt){p:Array Nat}(P:PP n p){i j k:Nat}(hi:i < n)(hj:j < n)(hk:k < n)(a:lt (p.getD i 0) (p.getD j 0)=true)(b:lt (p.getD j 0) (p.getD k 0)=true):lt (p.getD i 0) (p.getD k 0)=true :=
 O.tr _ _ _ (P.lt hi) (P.lt hj) (P.lt hk) a b
theorem Asc.one {p:Array Nat}:Asc lt p 1:=λ i j h h'=>by simp_all
theorem Asc.more (O:SO n lt){p:Array Nat}(P:PP n p){m:Nat}(h1:1<=m)(hm:m < n)(h:Asc lt p m)(hl:lt (p.getD (m - 1) 0) (p.getD m 0)=true):Asc lt p (m+1):=λ i j hij hj=>by
 by_cases e:j=m
 ·subst e
  by_cases e2:i=j - 1
  ·subst e2;exact hl
  ·exact O.t3 P (by exact bU ‹_› ‹_›) (j:=j - 1) (by exact nnG ‹_›) hm (h i (j - 1) (by exact nuc ‹_› ‹_›) (by exact Nat.sub_lt_sub_left ‹_› (bw _))) hl
 ·exact h i j hij (by exact aX (aR ‹_›) ‹_›)
theorem Des.more (O:SO n lt){p:Array Nat}(P:PP n p){m:Nat}(h1:1<=m)(hm:m < n)(h:Des lt p m)(hl:lt (p.getD m 0) (p.getD (m - 1) 0)=true):Des lt p (m+1):=λ i j hij hj=>by
 by_cases e:j=m
 ·subst e
  by_cases e2:i=j - 1
  ·subst e2;exact hl
  ·exact O.t3 P hm (j:=j - 1) (by exact nnG ‹_›) (by exact bU ‹_› ‹_›) hl (h i (j - 1) (by exact nuc ‹_› ‹_›) (by exact Nat.sub_lt_sub_left ‹_› (bw _)))
 ·exact h i j hij (by exact aX (aR ‹_›) ‹_›)
theorem zfa (O:SO n lt)(hc:∀ i j (C:Bool->Shared->Prop),i < n->j < n->C (lt i j) s->cmp i j C s){p:Array Nat}(P:PP n p){Q:Nat->Shared->Prop}:∀ f m,1<=m->m+f=n->Asc lt p m ->
  (∀ m',m<=m'->m'<=n->Asc lt p m'->(m' < n->lt (p.getD m' 0) (p.getD (m' - 1) 0)=true)->Q m' s)->(kas_asc p f m).kasWp cmp Q s
 | 0,m,h1,hm,ha,q=>q m (an _) (by exact aG ‹_›) ha λ h=>by exact absurd (nT ‹_› (aG (bo ‹_›))) (bj _)
 | f+1,m,h1,hm,ha,q=>by
  unfold kas_asc
  refine hc _ _ _ (P.lt (by exact nub ‹_›)) (P.lt (by exact nua ‹_›)) ?_
  cases hl:lt (p.getD m 0) (p.getD (m - 1) 0)with
  | true=>exact q m (an _) (by exact nT (aS _ _) (aG ‹_›)) ha λ _=>hl
  | false =>
   have:=O.tot _ _ (P.lt (by exact nub ‹_›)) (P.lt (by exact nua ‹_›)) (P.inj (by exact nub ‹_›) (by exact nua ‹_›) (by lia)) hl
   exact zfa O hc P f (m+1) (by exact aQ (‹_›)) (by exact nuk ‹_›) (ha.more O P h1 (by exact nub ‹_›) this) λ m' a b=>q m' (by exact nT (bA _) (‹_›)) b
theorem zfG (O:SO n lt)(hc:∀ i j (C:Bool->Shared->Prop),i < n->j < n->C (lt i j) s->cmp i j C s){p:Array Nat}(P:PP n p){Q:Array Nat × Nat × Nat->Shared->Prop}:∀ f m,1<=m->m+f=n->Des lt p m ->
  (∀ m',m<=m'->m'<=n->Des lt p m'->Q (p,m',0) s)->(kas_desc f p m 0).kasWp cmp Q s
 | 0,m,h1,hm,ha,q=>q m (an _) (by exact aG ‹_›) ha
 | f+1,m,h1,hm,ha,q=>by
  unfold kas_desc
  refine hc _ _ _ (P.lt (by exact nub ‹_›)) (P.lt (by exact nua ‹_›)) ?_
  cases hl:lt (p.getD m 0) (p.getD (m - 1) 0)with
  | true =>
   dsimp only
   rw [aB rfl,aw (by simp_all)]
   exact zfG O hc P f (m+1) (by exact aQ (‹_›)) (by exact nuk ‹_›) (ha.more O P h1 (by exact nub ‹_›) hl) λ m' a b=>q m' (by exact nT (bA _) (‹_›)) b
  | false =>
   dsimp only
   rw [aw (by decide)]
   refine hc _ _ _ (P.lt (by exact nua ‹_›)) (P.lt (by exact nub ‹_›)) ?_
   have:=O.tot _ _ (P.lt (by exact nub ‹_›)) (P.lt (by exact nua ‹_›)) (P.inj (by exact nub ‹_›) (by exact nua ‹_›) (by lia)) hl
   rw [this]
   dsimp only
   rw [aB rfl]
   exact q m (an _) (by exact nT (aS _ _) (aG ‹_›)) ha
theorem ziV {p:Array Nat}{m k:Nat}(hm:m<=p.size)(hk:k < m):(kas_rev p 0 m).getD k 0=p.getD (m - 1 - k) 0:=by
 refine zez ?_
 unfold kas_rev
 rw [getElem?_mirror_all hm,aB ⟨bR _,hk⟩,Nat.zero_add]
theorem zkl {p:Array Nat}(P:PP n p)(m:Nat):PP n (kas_rev p 0 m):=⟨(Array.perm_iff_toList_perm.mp (mirror_perm p 0 m _)).trans P.perm⟩
theorem zhO (O:SO n lt)(hc:∀ i j (C:Bool->Shared->Prop),i < n->j < n->C (lt i j) s->cmp i j C s)(h2:2<=n){p:Array Nat}(P:PP n p){Q:Nat × Array Nat->Shared->Prop}(q:∀ m p',1<=m->m<=n->PP n p'->Asc lt p' m->Q (m,p') s):(kas_count n p).kasWp cmp Q s:=by
 unfold kas_count
 rw [KasT.kasWp_bind]
 refine zfa O hc P (n - 1) 1 (an _) (by exact nuf ‹_›) .one λ m h1 hm ha hl=>?_
 by_cases e:m=n
 ·rw [aB (by simpa using e)]
  exact q m p h1 hm P ha
 ·rw [aw (by simpa using e)]
  have hlt:=hl (by exact aX ‹_› ‹_›)
  by_cases e1:m > 1
  ·rw [aB e1]
   refine hc _ _ _ (P.lt (by exact cK ‹_›)) (P.lt (by exact nui ‹_› ‹_›)) ?_
   rw [ha 0 (m - 1) (by exact Nat.sub_pos_of_lt ‹_›) (by exact Nat.sub_lt_sub_left ‹_› (bw _))]
   dsimp only
   rw [aB rfl]
   exact q m p h1 hm P ha
  ·rw [aw e1]
   have em:m=1:=by lia
   subst em
   unfold kas_descPart
   rw [KasT.kasWp_bind]
   have hd:Des lt p (1+1):=λ i j hij hj=>by
    have a:i=0:=by lia
    have b:j=1:=by lia
    subst a b;exact hlt
   refine zfG O hc P (n - (1+1)) (1+1) (by exact aQ (‹_›)) (by exact Nat.add_sub_cancel' ‹_›) hd λ m' h3 h4 hd'=>?_
   dsimp only
   rw [aw (by exact Nat.not_le_of_lt (‹_›))]
   unfold kas_tail3
   rw [KasT.kasWp_bind]
   have P':=zkl P m'
   have hs:=P.size
   have ha':Asc lt (kas_rev p 0 m') m':=λ i j hij hj=>by
    rw [ziV (by exact nT ‹_› (aG (bo ‹_›))) (by exact bU ‹_› ‹_›),ziV (by exact nT ‹_› (aG (bo ‹_›))) hj]
    exact hd' _ _ (by exact nn1 ‹_› ‹_›) (by exact nn8 ‹_›)
   exact zfa O hc P' (n - m') m' (by exact cK ‹_›) (by exact Nat.add_sub_cancel' ‹_›) ha' λ m2 h5 h6 ha2 _=>q m2 _ (by exact nT (bA _) (nT ‹_› ‹_›)) h6 P' ha2
theorem zda (O:SO n lt)(hc:∀ i j (C:Bool->Shared->Prop),i < n->j < n->C (lt i j) s->cmp i j C s){p:Array Nat}(P:PP n p){k:Nat}(hk:k < n)(ha:Asc lt p k){Q:Nat->Shared->Prop}
  (q:∀ l,l<=k->(∀ i,i < l->lt (p.getD i 0) (p.getD k 0)=true)->(∀ i,l<=i->i < k->lt (p.getD k 0) (p.getD i 0)=true)->Q l s):∀ f l r,l<=r->r<=k->r - l<=f->(∀ i,i < l->lt (p.getD i 0) (p.getD k 0)=true)->(∀ i,r<=i->i < k->lt (p.getD k 0) (p.getD i 0)=true) ->
   (kas_place p k f l r).kasWp cmp Q s
 | 0,l,r,h1,h2,h3,h4,h5=>by
  have e:l=r:=by exact nug ‹_› ‹_›
  subst e
  exact q l h2 h4 h5
 | f+1,l,r,h1,h2,h3,h4,h5=>by
  unfold kas_place
  by_cases e:l ≥ r
  ·rw [aB e]
   have e:l=r:=by exact bV ‹_› ‹_›
   subst e
   exact q l h2 h4 h5
  ·rw [aw e]
   have m1:l<=(l+r) / 2:=by exact num ‹_›
   have m2:(l+r) / 2 < r:=by lia
   generalize (l+r) / 2=mid at m1 m2
   refine hc _ _ _ (P.lt hk) (P.lt (by lia)) ?_
   cases hl:lt (p.getD k 0) (p.getD mid 0)with
   | true =>
    dsimp only
    rw [aB rfl]
    refine zda O hc P hk ha q f l mid m1 (by exact nT (bA _) (nT ‹_› ‹_›)) (by exact nn9 ‹_› ‹_› ‹_›) h4 λ i a b=>?_
    by_cases e2:i=mid
    ·subst e2;exact hl
    ·exact O.t3 P hk (j:=mid) (by lia) (by exact bU ‹_› ‹_›) hl (ha mid i (by exact aX ‹_› (cp ‹_›)) b)
   | false =>
    dsimp only
    rw [aw (by decide)]
    have:=O.tot _ _ (P.lt hk) (P.lt (by lia)) (P.inj hk (by lia) (by exact bu (nT ‹_› ‹_›))) hl
    refine zda O hc P hk ha q f (mid+1) r (by assumption) h2 (by exact nnA ‹_› ‹_› ‹_›) (λ i a=>?_) h5
    by_cases e2:i=mid
    ·subst e2;exact this
    ·exact O.t3 P (by exact nuh ‹_› ‹_› ‹_› ‹_›) (j:=mid) (by lia) hk (ha i mid (by exact aX (aR ‹_›) ‹_›) (by exact au ‹_› ‹_›)) this
theorem zhb (O:SO n lt)(hc:∀ i j (C:Bool->Shared->Prop),i < n->j < n->C (lt i j) s->cmp i j C s){Q:Array Nat->Shared->Prop}(q:∀ p,PP n p->Asc lt p n->Q p s):∀ f k (p:Array Nat),PP n p->k+f=n->Asc lt p k->(kas_bin f p k).kasWp cmp Q s
 | 0,k,p,P,hk,ha=>by
  have e:k=n:=by assumption
  subst e
  exact q p P ha
 | f+1,k,p,P,hk,ha=>by
  unfold kas_bin
  rw [KasT.kasWp_bind]
  have hs:=P.size
  refine zda O hc P (by exact nub ‹_›) ha (λ l h1 h2 h3=>?_) k 0 k (bR _) (an _) (by simp_all) (λ i h=>absurd h (cG _)) (λ i h1 h2=>by exact(Nat.not_le_of_lt ‹_› ‹_›).elim)
  have P':PP n (bubble p k (k - l)):=⟨(Array.perm_iff_toList_perm.mp (bubble_perm p k (k - l))).trans P.perm⟩
  have g:∀ i,(bubble p k (k - l)).getD i 0=if i=l then p.getD k 0 else if l < i/\i<=k then p.getD (i - 1) 0 else p.getD i 0:=λ i=>by
   have:=getElem?_bubble (xs:=p) (src:=k) (by exact nuj ‹_› ‹_›) (k - l) (by simp_all) i
   rw [show k - (k - l)=l by exact nn2 ‹_›]at this
   by_cases e1:i=l
   ·rw [aB e1]at this ⊢;exact zez this
   ·rw [aw e1]at this ⊢
    by_cases e2:l < i/\i<=k
    ·rw [aB e2]at this ⊢;exact zez this
    ·rw [aw e2]at this ⊢;exact zez this
  refine zhb O hc q f (k+1) _ P' (by exact nuk ‹_›) λ i j hij hj=>?_
  rw [g i,g j]
  by_cases a1:i=l
  ·rw [aB a1,aw (by (rintro rfl;simp_all)),aB ⟨by simp_all,by exact Nat.le_of_succ_le_succ ‹_›⟩]
   exact h3 (j - 1) (by exact nn7 ‹_› ‹_›) (by exact nue ‹_› ‹_›)
  ·rw [aw a1]
   by_cases a2:l < i/\i<=k
   ·rw [aB a2,aw (by lia),aB ⟨by lia,by exact Nat.le_of_succ_le_succ ‹_›⟩]
    exact ha (i - 1) (j - 1) (by exact nn3 ‹_› ‹_›) (by exact nue ‹_› ‹_›)
   ·rw [aw a2]
    by_cases b1:j=l
    ·rw [aB b1];exact h2 i (by exact bP ‹_› ‹_›)
    ·rw [aw b1]
     by_cases b2:l < j/\j<=k
     ·rw [aB b2];exact ha i (j - 1) (by exact nn4 ‹_› ‹_› ‹_› ‹_›) (by exact nn5 ‹_›)
     ·rw [aw b2];exact ha i j hij (by exact nn6 ‹_› ‹_› ‹_› ‹_›)
theorem zg1 (n:Nat):PP n (List.range n).toArray:=⟨by simp⟩
theorem ziM (O:SO n lt)(hc:∀ i j (C:Bool->Shared->Prop),i < n->j < n->C (lt i j) s->cmp i j C s)(h2:2<=n){Q:Array Nat->Shared->Prop}(q:∀ p,PP n p->Asc lt p n->Q p s):(kas_sort n).kasWp cmp Q s:=by
 unfold kas_sort
 rw [KasT.kasWp_bind]
 refine zhO O hc h2 (zg1 n) λ m p h1 hm P ha=>?_
 dsimp only
 by_cases e:m < n
 ·rw [aB e]
  have em:max m 1=m:=by simp_all
  rw [em]
  exact zhb O hc q (n - m) m p P (by exact Nat.add_sub_cancel' ‹_›) ha
 ·rw [aw e]
  have e:m=n:=by exact nqT ‹_› ‹_›
  subst e
  exact q p P ha
end
/-! a set whose order is drawn -/
section
variable {M:Model}{A:Around}{E:Value->Shared->Prop}{s:Shared}
theorem zf7 {src:Source}{n:Nat}{Q:Nat->Shared->Prop}(hn:n≠0)(h:∀ i d,i < n->Q i { s with drawn:=d }):wpAny M A (choose src n) Q E s:=λ Γ p _=>by
 show Sem.wp M Γ (.choose src n .pure) _ _ p s
 rw [Sem.wp_choose]
 refine⟨hn,?_⟩
 rw [Sem.wp_pure]
 exact h _ _ (Nat.mod_lt _ (Nat.pos_of_ne_zero hn))
theorem zfu {α:Type}:∀ (n:Nat) (xs:List α) {s:Shared} {Q:List α->Shared->Prop},xs.length=n->(∀ ys d,ys.Perm xs->Q ys { s with drawn:=d })->wpAny M A (drawOrder n xs) Q E s
 | 0,[],s,Q,_,q=>by
  exact ai (q [] s.drawn .nil)
 | 0,_ :: _,s,Q,h,_=>by cases h
 | n+1,[],s,Q,h,_=>by cases h
 | n+1,x :: xs,s,Q,h,q=>by
  refine ag (zf7 (by simp) λ i d hi=>?_)
  have e:(x :: xs)[i]? = some (x :: xs)[i]:=al hi
  rw [e]
  dsimp only
  refine ag (zfu n ((x :: xs).eraseIdx i) (by rw [List.length_eraseIdx_of_lt hi,h];rfl) λ ys d' hp=>ai (q _ d' ?_))
  exact(List.Perm.cons _ hp).trans (zc8 hi)
end
noncomputable def siD (T i a n ep:Nat):Obj:={ cls:=.type "set_iterator",data:=.fields #[.ref T,.int i 0,.ref a,.int n 0,.int ep 0] }
structure SetD (w:World)(h:Heap)(a:Nat)(es:Array (Int × Value))(ep:Nat)(t:SetTable):Prop where
 at_:h.get? a=some { cls:=.type "set",dict:=none,data:=.set es ep t }
 fits:t.fits es.size=true
noncomputable def IsSetIterD (h:Heap)(I T a i n ep:Nat)(places:List Nat):Prop:=h.get? I=some (siD T i a n ep)/\∃ o c,h.get? T=some o/\o.data = .seq (places.map λ (p:Nat)=>Value.int p 0).toArray c
section
variable {prog:Program}{w:World}{A:Around}{E:Value->Shared->Prop}{s:Shared}{a I:Nat}{es:Array (Int × Value)}{ep:Nat}{t:SetTable}
theorem SetD.typeIs (h:SetD w s.heap a es ep t):s.TypeIs (.ref a) "set":=⟨_,h.at_,rfl⟩
theorem zgu {Q:Value->Shared->Prop}(h:SetD w s.heap a es ep t)(hb:byText w=false)(hd:(!t.plain && decide (es.size > 1))=true)(hz:es.size<=1000)
  (q:∀ (places:List Nat) d,places.Perm (List.range es.size)->Q (.ref (s.heap.objs.size+1)) { s with heap:=(s.heap.push { cls:=.type "tuple",data:=.seq (places.map λ (p:Nat)=>Value.int p 0).toArray }).push (siD s.heap.objs.size 0 a es.size ep),drawn:=d }) :
  wpAny (model prog w) A (pyIter (.ref a)) Q E s:=by
 have ho:=h.at_
 refine wpAny_pyIter_slot h.typeIs PySem.F.slot_set_iter (bq PySem.F.slot_set_iter h.typeIs zca ?_ (PySem.F.args_set_iter_1 _))
 unfold Builtin.«frozenset.__iter__» Builtin.Frozenset.slot0 slotArgs
 simp only [List.isEmpty_nil,Bool.not_true,bQ,↓reduceIte,bind_assoc,List.length_nil,bne_self_eq_false]
 unfold Builtin.Frozenset.addrOf Builtin.Frozenset.sizeOf setDrawn
 refine ag (ai ?_)
 try dsimp only
 refine ag (ai ?_)
 refine ag (ag (wpAny_setEntries_of ho rfl h.fits (ai ?_)))
 try dsimp only
 refine ag (ag (cu ho rfl h.fits ?_))
 dsimp only
 refine ag (zbn ?_)
 refine ai ?_
 refine cE (λ _=>?_) (λ hc=>absurd ?_ hc)
 ·refine ag (zfu es.size (List.range es.size) (by simp) λ places d hp=>?_)
  have hpl:places.length=es.size:=by rw [hp.length_eq,aL]
  refine ag (wpAny_newTuple ?_ (by rw [ah,hpl,sizeLine_eq];exact nT ‹_› (by decide)))
  have ho1:(s.heap.push { cls:=.type "tuple",data:=.seq (places.map λ (p:Nat)=>Value.int p 0).toArray }).get? a=some { cls:=.type "set",dict:=none,data:=.set es ep t }:=ay _ ho
  refine ag (wpAny_setEpoch_of (s:={ s with heap:=s.heap.push { cls:=.type "tuple",data:=.seq (places.map λ (p:Nat)=>Value.int p 0).toArray },drawn:=d }) ho1 rfl h.fits ?_)
  refine ag (wpAny_newObj_type (ai ?_) (by first | decide | rfl | size_fits))
  refine⟨_,rfl,"set_iterator",_,⟨_,aJ _ rfl,rfl⟩,zal.lookup,?_⟩
  have:=q places d hp
  show Q (.ref (s.heap.push _).objs.size) _
  rw [Heap.size_push]
  exact this
 ·show (!byText w && (!t.plain && decide (es.size > 1)))=true
  rw [hb,hd];rfl
theorem zhu (T i a n ep:Nat):(siD T i a n ep).data = .fields #[.ref T,.int i 0,.ref a,.int n 0,.int ep 0]:=rfl
theorem IsSetIterD.typeIs {T i n:Nat}{places:List Nat}(h:IsSetIterD s.heap I T a i n ep places):s.TypeIs (.ref I) "set_iterator":=⟨_,h.1,rfl⟩
theorem zg0 {T i:Nat}{places:List Nat}{Q:Option Value->Shared->Prop}(hh:A.handled=none)(hit:IsSetIterD s.heap I T a i es.size ep places)(hTI:T≠I)(h:SetD w s.heap a es ep t)
  (hlt:∀ p∈places,p < es.size)
  (q:∀ p e,places[i]? = some p->es[p]? = some e->∀ h',IsSetIterD h' I T a (i+1) es.size ep places->Heap.SameBut I s.heap h'->Q (some e.2) { s with heap:=h' })
  (q0:places[i]? = none->∀ h',(∀ b o,b≠I->s.heap.get? b=some o->h'.get? b=some o)->Q none { s with heap:=h' }):wpAny (model prog w) A (pyNext (.ref I)) Q E s:=by
 obtain⟨ho,q8⟩:=id hit;refine E22 q8 λ oT c hoT hdT=>?_;clear q8
 unfold pyNext
 refine ag (wpAny_attempt (wpAny_callSpecial?_slot (name:=Str.ofString "__next__") hit.typeIs zal
  (bq zal hit.typeIs zcI ?_ (zdl _))))
 unfold Builtin.«set_iterator.__next__» slotArgs
 dsimp only [List.isEmpty_nil,Bool.not_true,List.length_nil,bne_self_eq_false]
 try simp only [bQ,↓reduceIte]
 refine ag (ai ?_)
 try dsimp only
 refine ag (wpAny_fieldsOf ho (zhu ..) ?_)
 dsimp only
 refine ag (wpAny_setEntries_of h.at_ rfl h.fits ?_)
 refine bm (bK ((by simp))) ?_
 refine ag (wpAny_seqItems hoT hdT ?_)
 dsimp only
 have hget:((places.map λ (p:Nat)=>Value.int p 0).toArray)[((i:Nat):Int).toNat]? = places[i]?.map λ (p:Nat)=>Value.int p 0:=by
  rw [Int.toNat_natCast,List.getElem?_toArray,aD]
 rw [hget]
 cases hp:places[i]? with
 | some p =>
  have hpl:=hlt p (ap hp)
  dsimp only [Option.map_some]
  refine ag ?_
  unfold setNextDrawn
  refine ag (cu h.at_ rfl h.fits ?_)
  dsimp only
  refine bm (bK ((by simp))) ?_
  have he:es[((p:Nat):Int).toNat]? = some es[p]:=by rw [Int.toNat_natCast];exact bp hpl
  rw [he]
  dsimp only
  refine ai ?_
  refine ag (wpAny_setField_rec ho (by simp) λ hp1 ho1 hs1=>?_)
  refine ai ⟨_,rfl,ai (q p es[p] hp (bp hpl) hp1 ⟨?_,oT,c,(hs1.2 T hTI).trans hoT,hdT⟩ hs1)⟩
  exact ho1.trans (by simp [siD,rawInt])
 | none =>
  dsimp only [Option.map_none]
  refine ag (wpAny_setField_rec ho (by simp) λ hp1 ho1 hs1=>?_)
  refine ag (wpAny_setField_rec (s:={ s with heap:=hp1 }) ho1 (by simp) λ h3 ho3 hs3=>?_)
  show wpAny _ _ (newExc (.type "StopIteration") [] >>= _) _ _ _
  refine ag ?_
  simp only [newExc,newTuple]
  refine ag (wpAny_newObj_type ?_ (by size_fits))
  refine ag (m:=firstArgMember _ _) (wpAny_of_eq (a:=Value.none) (by first | rfl | (simp only [firstArgMember];rfl)) ?_)
  refine wpAny_newObj_type ?_ (by size_fits)
  unfold raiseNew
  dsimp only
  refine ag (wpAny_handled ?_)
  rw [show A.in1.handled=none from hh]
  refine ag (ai (wpAny_throw ?_))
  refine ag (wpAny_isInstance (T:="StopIteration") (b:=true) ⟨_,aJ _ rfl,rfl⟩ isSubtype_stop ?_)
  exact ai (q0 hp _ λ b o hb e=>ay _ (ay _ ((hs3.2 b hb).trans ((hs1.2 b hb).trans e))))
theorem zja {T i:Nat}{places:List Nat}{Q:Value->Shared->Prop}(hit:IsSetIterD s.heap I T a i es.size ep places)(h:Q (.ref I) s):wpAny (model prog w) A (pyIter (.ref I)) Q E s:=by
 refine wpAny_pyIter_slot hit.typeIs zbm (bq zbm hit.typeIs zcD ?_ (zdj _))
 show wpAny _ _ (ret (.ref I)) _ _ s
 exact ai ⟨_,rfl,"set_iterator",_,hit.typeIs,zal.lookup,h⟩
theorem Walks.setD (hh:A.handled=none){T:Nat}(I a:Nat)(hne:a≠I)(hTI:T≠I)(es:Array (Int × Value))(ep:Nat)(t:SetTable)(places:List Nat)(hp:places.Perm (List.range es.size)) :
  Walks prog w A I [I,a,T] [I] es.size (λ i v=>∃ p e,places[i]? = some p/\es[p]? = some e/\v=e.2) (λ i h=>IsSetIterD h I T a i es.size ep places/\SetD w h a es ep t) where
 sub:=λ b hb=>by rw [List.mem_singleton.mp hb];exact .head _
 frame:=λ i h h' x k=>⟨⟨k I (.head _) _ x.1.1,E22 x.1.2 λ o c h2 h3=>⟨o,c,k T (.tail _ (.tail _ (.head _))) _ h2,h3⟩⟩,⟨k a (.tail _ (.head _)) _ x.2.at_,x.2.fits⟩⟩
 item:=λ i s Q E hi st q=>by
  refine E02 st λ h1 h2=>?_
  have hl:places.length=es.size:=by rw [hp.length_eq,aL]
  refine zg0 hh h1 hTI h2 (λ p hp'=>List.mem_range.mp (hp.mem_iff.mp hp')) (λ p e e1 e2 h' k1 k2=>?_) λ e=>?_
  ·exact q _ _ s.toks ⟨p,e,e1,e2,rfl⟩ ⟨k1,⟨(k2.2 a hne).trans h2.at_,h2.fits⟩⟩ λ b o hb e=>(k2.2 b (λ x=>hb (by rw [x];exact .head _))).trans e
  ·rw [al (by rw [hl];exact hi)]at e;cases e
 done:=λ s Q E st q=>by
  refine E02 st λ h1 h2=>?_
  have hl:places.length=es.size:=by rw [hp.length_eq,aL]
  refine zg0 hh h1 hTI h2 (λ p hp'=>List.mem_range.mp (hp.mem_iff.mp hp')) (λ p e e1=>?_) λ _ h' k=>q h' s.toks λ b o hb e=>k b o (λ x=>hb (by rw [x];exact .head _)) e
  rw [bT (by rw [hl];exact an _)]at e1;cases e1
 self:=λ i s Q E st q=>zja st.1 q
end
/-! walking a set of tuples -/
structure Begun (prog:Program)(w:World)(A:Around)(s:Shared)(a:Nat)(T:List Value)(I:Nat)(h':Heap):Prop where
 it:∃ fp P St,Walks prog w A I fp [I] T.length P St/\St 0 h'/\(∀ b∈fp,b=a∨s.heap.objs.size<=b)/\∀ vs:List Value,vs.length=T.length->(∀ (j:Nat) (v:Value),vs[j]? = some v->P j v)->vs.Perm T
 keep:∀ b o,s.heap.get? b=some o->h'.get? b=some o
 new:s.heap.objs.size<=I
section
variable {prog:Program}{w:World}{A:Around}{E:Value->Shared->Prop}{s:Shared}{a:Nat}{T:List Value}
noncomputable def SU (w:World)(h:Heap)(a:Nat)(T:List Value):Prop:=∃ es ep t,h.get? a=some { cls:=.type "set",dict:=none,data:=.set es ep t }/\t.fits es.size=true/\SetTable.rising t.place=true/\t.led = !byText w/\T=es.toList.map (·.2)
theorem zjk (S:SU w s.heap a T)(hn:T.length<=17)(hh:A.handled=none){Q:Value->Shared->Prop}(q:∀ I h' d,Begun prog w A s a T I h'->Q (.ref I) { s with heap:=h',drawn:=d }) :
  wpAny (model prog w) A (pyIter (.ref a)) Q E s:=by
 refine E35 (S) λ es ep t ho hf hri hle q9=>?_;subst q9
 have hsz:es.size=(es.toList.map (·.2)).length:=by rw [ah,aE]
 have hlt:a < s.heap.objs.size:=aO ho
 rw [<- hsz]at hn
 by_cases hd:byText w=false/\(!t.plain && decide (es.size > 1))=true
 ·refine zgu (w:=w) ⟨ho,hf⟩ hd.1 hd.2 (by lia) λ places d hp=>q _ _ d ⟨⟨_,_,_,(by rw [<- hsz];exact Walks.setD (w:=w) hh (T:=s.heap.objs.size) (s.heap.objs.size+1) a (by exact nsy ‹_›) (by lia) es ep t places hp),?_,?_,?_⟩,λ b o e=>ay _ (ay _ e),by lia⟩
  ·have e1:((s.heap.push { cls:=.type "tuple",data:=.seq (places.map λ (p:Nat)=>Value.int p 0).toArray }).objs.size:Nat)=s.heap.objs.size+1:=Heap.size_push ..
   refine⟨⟨?_,_,_,ay _ (aJ _ rfl),rfl⟩,⟨ay _ (ay _ ho),hf⟩⟩
   rw [<- e1];exact aJ _ rfl
  ·intro b hb
   simp only [bD,List.not_mem_nil,or_false]at hb
   rcases hb with rfl | rfl | rfl
   ·exact .inr (by lia)
   ·exact .inl rfl
   ·exact .inr (an _)
  ·intro vs hl hP
   have hpl:places.length=es.size:=by rw [hp.length_eq,aL]
   have hvs:vs=places.map λ p=>((es[p]?).map (·.2)).getD .none:=by
    refine List.ext_getElem? λ j=>?_
    rcases bN j vs.length with hj | hj
    ·refine E23 (hP j vs[j] (by simp)) λ p e h1 h2 h3=>?_
     rw [al hj,h3,aD,h1,Option.map_some,h2];rfl
    ·rw [bT hj,bT (by rw [ah,hpl];lia)]
   rw [hvs]
   refine(hp.map _).trans ?_
   have:(List.range es.size).map (λ p=>((es[p]?).map (·.2)).getD Value.none)=es.toList.map (·.2):=by
    refine List.ext_getElem (by simp) λ i h1 h2=>?_
    have hi:i < es.size:=by simpa using h1
    rw [List.getElem_map,List.getElem_map,List.getElem_range,bp hi];rfl
   rw [this]
 ·have hnd:byText w=false->(!t.plain && decide (es.size > 1))=false:=λ hb=>by
   cases h:(!t.plain && decide (es.size > 1))with
   | false=>rfl
   | true=>exact absurd ⟨hb,h⟩ hd
  have SA:SetAt w s.heap a es ep t:=⟨ho,hf,hri,hnd,hle⟩
  refine zeu SA ?_
  refine q _ _ s.drawn ⟨⟨_,_,_,(by rw [<- hsz];exact Walks.set (w:=w) hh s.heap.objs.size a (by exact aF ‹_›) es ep t),?_,?_,?_⟩,λ b o e=>ay _ e,an _⟩
  ·exact⟨⟨0,aJ _ rfl,λ _=>rfl⟩,SA.keep λ o e=>ay _ e⟩
  ·intro b hb
   simp only [bD,List.not_mem_nil,or_false]at hb
   rcases hb with rfl | rfl
   ·exact .inr (an _)
   ·exact .inl rfl
  ·intro vs hl hP
   have hvs:vs=(setOrd w a ep es).toList.map (·.2):=by
    refine List.ext_getElem? λ j=>?_
    have hl2:=(zaC w a ep es).length_eq
    rcases bN j vs.length with hj | hj
    ·refine E12 (hP j vs[j] (by simp)) λ e h1 h2=>?_
     rw [al hj,h2,aD,Array.getElem?_toList,h1];rfl
    ·rw [bT hj,bT]
     rw [ah,hl2,aE];lia
   rw [hvs]
   exact(zaC w a ep es).map _
end
/-! a set of tuples as a list -/
section
variable {prog:Program}{w:World}{A:Around}{E:Value->Shared->Prop}{s:Shared}{a:Nat}{T:List Value}
theorem SU.typeIs (S:SU w s.heap a T):s.TypeIs (.ref a) "set":=by
 refine E32 (S) λ es ep t ho r=>?_
 exact⟨_,ho,rfl⟩
theorem SU.keep {h h':Heap}(S:SU w h a T)(k:∀ b o,h.get? b=some o->h'.get? b=some o):SU w h' a T:=by
 refine E32 (S) λ es ep t ho r=>?_
 exact⟨es,ep,t,k _ _ ho,r⟩
theorem SU.lt {h:Heap}(S:SU w h a T):a < h.objs.size:=by
 refine E32 (S) λ es ep t ho r=>?_
 exact aO ho
theorem extS {R:Result->Shared->Prop}(hh:A.handled=none)(K:SU w s.heap a T)(hn:T.length<=17)(S:Addr)(hSr:S≠a)(res:Value)(fi:Nat)(hS:s.heap.get? S=some { cls:=.type "list",data:=.seq #[] fi })
  (hR:∀ h' tk d acc' c',(∀ b o,b≠S->s.heap.get? b=some o->h'.get? b=some o)->h'.get? S=some { cls:=.type "list",dict:=none,data:=.seq acc' c',slots:=#[] }->acc'.toList.Perm T->R (.ok (.ret res)) { s with heap:=h',toks:=tk,drawn:=d }) :
  wpAny (model prog w) A.in1 (Builtin.List.listExtendWith (.ref S) (.ref a) res)
   (λ fin s'=>match fin with | .done f=>R (.ok f) s' | .again c'=>c'.quiet=true/\codeAny (model prog w) A c' R s') (λ e s'=>R (.error e) s') s:=by
 have hSl:S < s.heap.objs.size:=aO hS
 unfold Builtin.List.listExtendWith
 refine ag (wpAny_typeOf (T:="set") K.typeIs ?_)
 have h1:Builtin.List.listSameRef (.ref S) (.ref a)=false:=by simp [Builtin.List.listSameRef,hSr]
 have n1:(Value.type "set" == Value.type "list")=false:=by decide
 have n2:(Value.type "set" == Value.type "tuple")=false:=by decide
 simp only [h1,n1,n2,Bool.or_false,bQ,if_false]
 refine ag (zjk K hn (by exact hh) λ I dw d B=>?_)
 obtain⟨⟨fp,P,St,W,st,hfp,hP⟩,hk1,hI⟩:=B
 have hSf:S∉fp:=λ hb=>by
  rcases hfp S hb with e | e
  ·exact hSr e
  ·exact absurd hSl (Nat.not_lt.mpr e)
 have eN:=hk1 _ _ hS
 have key:∀ (h:Heap) (eZ tk:Nat),St 0 h->(∀ b o,b≠S->s.heap.get? b=some o->h.get? b=some o) ->
   h.get? S=some { cls:=.type "list",data:=.seq #[] eZ }->codeAny (model prog w) A (.builtin "list.extend.loop" ⟨[.ref S,.ref I,res],[]⟩) R { s with heap:=h,toks:=tk,drawn:=d }:=by
  intro h eZ tk hst hk eN
  refine codeAny_extend_loopS W.toS (nT hn (by decide)) S hSf res T.length 0 _ #[] eZ rfl (bR _) hst eN (ItemsOf.nil _) λ s' acc' c' hm hS' hacc=>?_
  rw [Moved.eq_with hm]
  refine hR s'.heap s'.toks d acc' c' (λ b o hb e=>hm.heap b o (λ hmem=>?_) (hk b o hb e)) hS' (hP _ (by rw [aE];exact hacc.1) λ j v e=>hacc.2 j v (by rw [<- Array.getElem?_toList];exact e))
  rcases List.mem_cons.mp hmem with e' | hmem
  ·exact hb e'
  ·rw [List.mem_singleton.mp hmem]at e
   exact absurd (aO e) (Nat.not_lt.mpr hI)
 refine ag (aP (zgP (SU.typeIs (s:={ s with heap:=dw,drawn:=d }) (K.keep hk1)) ?_))
 refine cE (λ _=>?_) (λ _=>ai ⟨plainId_quiet PySem.F.plain_extend_loop _,key _ fi _ st (λ b o _ e=>hk1 b o e) eN⟩)
 refine ag (wpAny_rule ?_)
 refine ag ?_
 show wpAny _ _ (updateSeq S (·.push .none) >>= λ _=>updateSeq S (·.pop)) _ _ _
 refine ag (wpAny_updateSeq eN rfl ?_)
 have fj:=Heap.get?_update_self (Obj.mapSeq (·.push Value.none)) eN rfl
 refine wpAny_updateSeq (hz:=by seq_fits) fj rfl ?_
 have fH:=Heap.get?_update_self (Obj.mapSeq (·.pop)) fj rfl
 refine ai ⟨plainId_quiet PySem.F.plain_extend_loop _,key _ _ _ ?_ (λ b o hb e=>?_) fH⟩
 ·refine W.frame 0 _ _ st λ b hb o e=>?_
  have hbS:b≠S:=λ h=>hSf (h▸hb)
  exact(Heap.get?_update_other _ _ (cp hbS)).trans ((Heap.get?_update_other _ _ (cp hbS)).trans e)
 ·exact(Heap.get?_update_other _ _ (cp hb)).trans ((Heap.get?_update_other _ _ (cp hb)).trans (hk1 b o e))
theorem collectS {R:List Value->Shared->Prop}(hh:A.handled=none)(K:SU w s.heap a T)(hn:T.length<=17)
  (h:∀ (h':Heap) (tk:Nat) (d:Drawn) (vs:List Value),(∀ b o,s.heap.get? b=some o->h'.get? b=some o)->vs.Perm T->R vs { s with heap:=h',toks:=tk,drawn:=d }) :
  wpAny (model prog w) A (collect (.ref a)) R E s:=by
 have hlt:=K.lt
 unfold collect
 refine ag (wpAny_runValue (codeAny_builtin entry_proto_collect' ?_))
 rw [Around.under_plainId PySem.F.plain_proto_collect _]
 show wpAny _ A.in1 (newList [] >>= λ l=>again (.builtin "list.__iadd__" ⟨[l,.ref a],[]⟩)) _ _ s
 refine ag (wpAny_newObj_type ?_)
 refine ai ⟨plainId_quiet PySem.F.plain_list_iadd _,codeAny_builtin entry_list_iadd' ?_⟩
 rw [Around.under_plainId PySem.F.plain_list_iadd _]
 have eN:(s.heap.push { cls:=.type "list",data:=.seq ([]:List Value).toArray }).get? s.heap.objs.size=some { cls:=.type "list",data:=.seq #[] }:=aJ _ rfl
 show wpAny _ A.in1 (Builtin.List.listExtendWith (.ref s.heap.objs.size) (.ref a) (.ref s.heap.objs.size)) _ _ _
 have key:=extS (prog:=prog) (w:=w) (T:=T) (a:=a) (A:=A) (s:={ s with heap:=s.heap.push { cls:=.type "list",data:=.seq ([]:List Value).toArray } })
  (R:=λ (q:Result) (s':Shared)=>∃ (h':Heap) (tk:Nat) (d:Drawn) (acc':Array Value) (c':Nat),q = .ok (.ret (.ref s.heap.objs.size))/\s'={ s with heap:=h',toks:=tk,drawn:=d } /\
   (∀ b o,s.heap.get? b=some o->h'.get? b=some o)/\h'.get? s.heap.objs.size=some { cls:=.type "list",dict:=none,data:=.seq acc' c',slots:=#[] }/\acc'.toList.Perm T)
  hh (K.keep λ b o e=>ay _ e) hn s.heap.objs.size (bu hlt) (.ref s.heap.objs.size) 0 eN
  (λ h' tk d acc' c' hk hS' hacc=>⟨h',tk,d,acc',c',rfl,rfl,λ b o e=>hk b o (aF (aO e)) (ay _ e),hS',hacc⟩)
 refine am key (λ fin s' x=>?_) λ e s' x=>?_
 ·cases fin with
  | done f =>
   refine E55 (x) λ h' tk d acc' c' e q9 hk hS' hacc=>?_;subst q9
   cases e
   show wpAny _ A (load s.heap.objs.size >>= _) _ _ _
   refine ag (wpAny_load hS' ?_)
   exact ai (h h' tk d acc'.toList hk hacc)
  | again eZ =>
   refine⟨x.1,codeAny_mono x.2 λ q dq y=>?_⟩
   refine E55 (y) λ h' tk d acc' c' q9 q8 hk hS' hacc=>?_;subst q9;subst q8
   show wpAny _ A (load s.heap.objs.size >>= _) _ _ _
   refine ag (wpAny_load hS' ?_)
   exact ai (h h' tk d acc'.toList hk hacc)
 ·refine E52 (x) λ _ _ _ _ _ e' _=>?_
  cases e'
theorem sortedS {Q:Value->Shared->Prop}(hh:A.handled=none)(K:SU w s.heap a T)(hn:T.length<=17)
  (h:∀ (h':Heap) (tk:Nat) (d:Drawn) (vs:List Value),(∀ b o,s.heap.get? b=some o->h'.get? b=some o)->vs.Perm T ->
   wpAny (model prog w) A.in1 (call (.builtin "list.sort") [.ref h'.objs.size]) (λ _ s'=>Q (.ref h'.objs.size) s') E { s with heap:=h'.push { cls:=.type "list",data:=.seq vs.toArray },toks:=tk,drawn:=d }) :
  wpAny (model prog w) A (call (.builtin "sorted") [.ref a]) Q E s:=by
 refine call_function_entry kind_sorted plain_sorted entry_sorted (args_sorted1 _) ?_
 unfold Builtin.«sorted»
 refine ag (m:=checkCount "sorted" 1 1 _) (ai ?_)
 refine ag (collectS (A:=A.in1) (by exact hh) K hn λ h' tk d vs hk hp=>?_)
 have hl:vs.length=T.length:=by rw [hp.length_eq]
 refine ag (wpAny_newList ?_ (by rw [hl,sizeLine_eq];lia))
 refine ag (aP (am (h h' tk d vs hk hp) (λ _ s' x=>?_) λ _ _ e=>e))
 exact ai ⟨_,rfl,x⟩
end
/-! sorting tuples -/
noncomputable def KA.isT:KA->Bool
 | .s _=>true
 | .i _=>false
noncomputable def ltA:KA->KA->Bool
 | .s x,.s y=>decide (x.cps.toList < y.cps.toList)
 | .i a,.i b=>decide (a < b)
 | _,_=>false
noncomputable def lexB:List KA->List KA->Bool->Bool
 | a :: r,c :: t,fin=>if a=c then lexB r t fin else ltA a c
 | _,_,fin=>fin
noncomputable def ltK (x y:List KA):Bool:=lexB x y (decide (x.length < y.length))
noncomputable def Kin (f:Bool):List KA->Prop
 | []=>False
 | a :: r=>a.isT=f/\∀ c∈r,c.isT=false
section
variable {prog:Program}{w:World}{A:Around}{E:Value->Shared->Prop}{s:Shared}
theorem ziB {k:KA}{v:Value}(h:(kaKind prog w).is k v=true)(hk:k.isT=false):∃ n t,k = .i n/\v = .int n t:=by
 have h':KA.isB k v=true:=h
 rcases KA.shape h' with ⟨x,t,rfl,rfl⟩ | ⟨n,t,rfl,rfl⟩
 ·cases hk
 ·exact⟨n,t,rfl,rfl⟩
set_option tactic.hygienic true in
theorem zjx {fin:Bool}{Q:Bool->Shared->Prop}:∀ {x y:List KA} {xs ys:List Value} {i:Nat},1<=i->PySem.ItemsAre (kaKind prog w) x xs->PySem.ItemsAre (kaKind prog w) y ys->(∀ c∈x,c.isT=false)->(∀ c∈y,c.isT=false)->Q (lexB x y fin) s->KatLex prog w A true fin Q (xs.zip ys) i s:=by
 intro x
 induction x with
 | nil =>
  intro y xs ys i _ hx hy _ _ q
  cases hx
  exact kat_nil (by unfold lexB at q;exact q)
 | cons a r ih =>
  intro y xs ys i hi hx hy kx ky q
  cases hx with
  | cons h1 h2 =>
   rename_i v vs
   cases hy with
   | nil=>exact kat_nil (by unfold lexB at q;exact q)
   | cons g1 g2 =>
    rename_i c u t us
    refine kat_cons ((kaKind prog w).eqBool (a:=a) (b:=c) h1 g1 ?_)
    refine E22 (ziB h1 (kx _ (.head _))) λ n t1 q9 q8=>?_;subst q9;subst q8
    refine E22 (ziB g1 (ky _ (.head _))) λ n' t2 q9 q8=>?_;subst q9;subst q8
    unfold lexB at q
    by_cases e:KA.i n=KA.i n'
    ·rw [cx e]
     rw [aB e]at q
     exact kat_yes (ih (by exact aQ (‹_›)) h2 g2 (λ c hc=>kx c (.tail _ hc)) (λ c hc=>ky c (.tail _ hc)) q)
    ·rw [bK e]
     rw [aw e]at q
     refine kat_no ?_
     have:(true && i == 0)=false:=by simp;exact bu (‹_›)
     rw [this]
     exact kat_one _ _ (lt_int q)
set_option tactic.hygienic true in
theorem zkh {f:Bool}{x y:List KA}{xs ys:List Value}{Q:Bool->Shared->Prop}(hx:PySem.ItemsAre (kaKind prog w) x xs)(hy:PySem.ItemsAre (kaKind prog w) y ys)(kx:Kin f x)(ky:Kin f y)(q:Q (ltK x y) s):KatLex prog w A true (decide (xs.length < ys.length)) Q (xs.zip ys) 0 s:=by
 have l1:=hx.length
 have l2:=hy.length
 rw [<- l1,<- l2]
 unfold ltK at q
 generalize decide (x.length < y.length)=fin at q
 cases hx with
 | nil=>exact kx.elim
 | cons h1 h2 =>
  rename_i a v r vs
  cases hy with
  | nil=>exact ky.elim
  | cons g1 g2 =>
   rename_i c u t us
   refine kat_cons ((kaKind prog w).eqBool (a:=a) (b:=c) h1 g1 ?_)
   unfold lexB at q
   by_cases e:a=c
   ·rw [cx e]
    rw [aB e]at q
    exact kat_yes (zjx (an _) h2 g2 kx.2 ky.2 q)
   ·rw [bK e]
    rw [aw e]at q
    refine kat_no ?_
    have h1':KA.isB a v=true:=h1
    have g1':KA.isB c u=true:=g1
    have k1:=kx.1
    have k2:=ky.1
    rcases KA.shape h1' with ⟨x1,t1,rfl,rfl⟩ | ⟨n1,t1,rfl,rfl⟩ <;> rcases KA.shape g1' with ⟨x2,t2,rfl,rfl⟩ | ⟨n2,t2,rfl,rfl⟩
    ·exact oneLt_str q
    ·rw [<- k1]at k2;cases k2
    ·rw [<- k1]at k2;cases k2
    ·exact oneLt_int q
set_option tactic.hygienic true in
theorem zji {f:Bool}{x:List KA}{b:Nat}(hk:IsTupleKey (kaKind prog w) s.heap x b)(kx:Kin f x):∃ v,(∃ a o xs n,Value.ref b = .ref a/\s.heap.get? a=some o/\o.cls = .type "tuple" /\ o.data = .seq xs n/\xs[0]? = some v)/\Looks (model prog w) s.heap (typeOf v) (.type (if f then "str" else "int")):=by
 refine E34 (hk) λ o items n ho hc hd hi=>?_
 have hz:items[0]? = items.toList[0]?:=by simp
 cases x with
 | nil=>exact kx.elim
 | cons a r =>
  generalize hit:items.toList=vs at hi hz
  cases hi with
  | cons h1 h2 =>
   rename_i v vs
   have h1':KA.isB a v=true:=h1
   have k1:=kx.1
   refine⟨v,⟨b,o,items,n,rfl,ho,hc,hd,hz⟩,?_⟩
   rcases KA.shape h1' with ⟨x1,t1,rfl,rfl⟩ | ⟨n1,t1,rfl,rfl⟩
   ·rw [<- k1];exact .of_pure rfl
   ·rw [<- k1];exact .of_pure rfl
end
/-! the order of tuples -/
noncomputable def ltL:List KA->List KA->Bool
 | [],[]=>false
 | [],_ :: _=>true
 | _ :: _,[]=>false
 | a :: r,c :: t=>if a=c then ltL r t else ltA a c
theorem zfz:∀ (x y:List KA),ltK x y=ltL x y
 | [],[]=>rfl
 | [],_ :: _=>by simp [ltK,lexB,ltL]
 | _ :: _,[]=>by simp [ltK,lexB,ltL]
 | a :: r,c :: t=>by
  have:=zfz r t
  unfold ltK at this ⊢
  unfold lexB ltL
  rw [bx,bx,show decide (r.length+1 < t.length+1)=decide (r.length < t.length)from by simp]
  by_cases e:a=c
  ·rw [aB e,aB e,this]
  ·rw [aw e,aw e]
theorem zjK (a:KA):ltA a a=false:=by cases a <;> simp [ltA]
theorem zkd {a b c:KA}(h1:ltA a b=true)(h2:ltA b c=true):ltA a c=true:=by
 cases a <;> cases b <;> cases c <;> simp [ltA]at h1 h2 ⊢
 ·exact List.lt_trans h1 h2
 ·lia
theorem zig {a b:KA}(hk:a.isT=b.isT)(hne:a≠b)(h:ltA a b=false):ltA b a=true:=by
 induction a with
 | s x =>
  induction b with
  | s y =>
   have h:decide (x.cps.toList < y.cps.toList)=false:=h
   have h:=cj h
   show decide (y.cps.toList < x.cps.toList)=true
   refine cx (ci λ h2=>hne ?_)
   have e:=List.le_antisymm (List.not_lt.mp h2) (List.not_lt.mp h)
   cases x;cases y
   exact cw KA.s (cw Str.mk (Array.toList_inj.mp e))
  | i n=>cases hk
 | i m =>
  induction b with
  | s y=>cases hk
  | i n =>
   have h:decide (m < n)=false:=h
   have h:=cj h
   have:m≠n:=λ e=>hne (by rw [e])
   exact cx (by lia)
theorem ziy:∀ x:List KA,ltL x x=false
 | []=>rfl
 | a :: r=>by unfold ltL;rw [aB rfl];exact ziy r
theorem zh5:∀ {x y z:List KA},ltL x y=true->ltL y z=true->ltL x z=true
 | [],[],z,h,_=>by cases h
 | [],_ :: _,[],_,h=>by cases h
 | [],_ :: _,_ :: _,_,_=>rfl
 | _ :: _,[],_,h,_=>by cases h
 | _ :: _,_ :: _,[],_,h=>by cases h
 | a :: r,b :: t,c :: u,h1,h2=>by
  unfold ltL at h1 h2 ⊢
  by_cases e1:a=b
  ·rw [aB e1]at h1
   subst e1
   by_cases e2:a=c
   ·rw [aB e2]at h2 ⊢
    exact zh5 h1 h2
   ·rw [aw e2]at h2 ⊢;exact h2
  ·rw [aw e1]at h1
   by_cases e2:b=c
   ·subst e2
    rw [aw e1];exact h1
   ·rw [aw e2]at h2
    have:=zkd h1 h2
    rw [aw λ e=>by subst e;rw [zjK]at this;cases this]
    exact this
theorem zgG {x y:List KA}(h1:ltL x y=true):ltL y x=false:=by
 cases h:ltL y x with
 | false=>rfl
 | true=>have:=zh5 h1 h;rw [ziy]at this;cases this
theorem zgR:∀ {x y:List KA},(∀ c∈x,c.isT=false)->(∀ c∈y,c.isT=false)->x≠y->ltL x y=false->ltL y x=true
 | [],[],_,_,h,_=>absurd rfl h
 | [],_ :: _,_,_,_,h=>by cases h
 | _ :: _,[],_,_,_,_=>rfl
 | a :: r,c :: t,kx,ky,hne,h=>by
  unfold ltL at h ⊢
  by_cases e:a=c
  ·subst e
   rw [aB rfl]at h ⊢
   exact zgR (λ c hc=>kx c (.tail _ hc)) (λ c hc=>ky c (.tail _ hc)) (λ e=>hne (by rw [e])) h
  ·rw [aw e]at h
   rw [aw λ q=>e q.symm]
   exact zig (by rw [kx a (.head _),ky c (.head _)]) e h
theorem zj2 {f:Bool}:∀ {x y:List KA},Kin f x->Kin f y->x≠y->ltL x y=false->ltL y x=true
 | [],_,kx,_,_,_=>kx.elim
 | _ :: _,[],_,ky,_,_=>ky.elim
 | a :: r,c :: t,kx,ky,hne,h=>by
  unfold ltL at h ⊢
  by_cases e:a=c
  ·subst e
   rw [aB rfl]at h ⊢
   exact zgR kx.2 ky.2 (λ e=>hne (by rw [e])) h
  ·rw [aw e]at h
   rw [aw λ q=>e q.symm]
   exact zig (kx.1.trans ky.1.symm) e h
noncomputable def ltI (ks:List (List KA))(i j:Nat):Bool:=ltK (ks.getD i []) (ks.getD j [])
theorem zku {f:Bool}{ks:List (List KA)}(kin:∀ x∈ks,Kin f x)(nd:ks.Nodup):SO ks.length (ltI ks):=by
 have g:∀ i,i < ks.length->∃ x,ks[i]? = some x/\ks.getD i []=x/\x∈ks:=λ i hi=>⟨ks[i],al hi,by rw [aA,al hi];rfl,List.getElem_mem hi⟩
 refine⟨λ i j hi hj hne h=>?_,λ i j hi hj h=>?_,λ i j k hi hj hk h1 h2=>?_⟩
 ·refine E13 (g i hi) λ x a1 a2 a3=>?_
  refine E13 (g j hj) λ y b1 b2 b3=>?_
  unfold ltI at h ⊢
  rw [zfz,a2,b2]at h
  rw [zfz,a2,b2]
  refine zj2 (kin x a3) (kin y b3) (λ e=>hne ?_) h
  subst e
  exact(List.getElem?_inj hi nd).mp (a1.trans b1.symm)
 ·unfold ltI at h ⊢
  rw [zfz]at h ⊢
  exact zgG h
 ·unfold ltI at h1 h2 ⊢
  rw [zfz]at h1 h2 ⊢
  exact zh5 h1 h2
theorem zis:∀ l:List Value,(l.zip l).map (·.2)=l
 | []=>rfl
 | x :: l=>by rw [List.zip_cons_cons,aH,zis l]
section
variable {prog:Program}{w:World}{A:Around}{E:Value->Shared->Prop}{s:Shared}
set_option maxHeartbeats 8000000 in
theorem zko {s6:Shared}{f:Bool}(ks:List (List KA)):∀ (vs:List Value),ks.length=vs.length->(∀ x∈ks,Kin f x)->(∀ (i:Nat) (x:List KA) (v:Value),ks[i]? = some x->vs[i]? = some v->∃ b,v = .ref b/\IsTupleKey (kaKind prog w) s6.heap x b) ->
  ∃ fs,KatTups s6.heap vs fs/\(fs.length=vs.length/\∀ v∈fs,Looks (model prog w) s6.heap (typeOf v) (.type (if f then "str" else "int"))):=by
 induction ks with
 | nil =>
  intro vs h _ _
  obtain rfl:=List.length_eq_zero_iff.mp h.symm
  exact⟨[],.nil,rfl,λ _ h=>by cases h⟩
 | cons x ks ih =>
  intro vs h kin hk
  cases vs with
  | nil=>cases h
  | cons v vs =>
   refine E13 (ih vs (Nat.succ.inj h) (λ x hx=>kin x (.tail _ hx)) λ i x v e1 e2=>hk (i+1) x v e1 e2) λ fs a1 a2 a3=>?_
   refine E12 (hk 0 x v rfl rfl) λ b q9 hb=>?_;subst q9
   refine E12 (zji hb (kin x (.head _))) λ u a4 a5=>?_
   refine⟨u :: fs,⟨a4,a1⟩,cw (· + 1) a2,λ v hv=>?_⟩
   rcases List.mem_cons.mp hv with rfl | hv
   ·exact a5
   ·exact a3 v hv
theorem zeY {f:Bool}{a:Nat}{vs:List Value}{ks:List (List KA)}{n:Nat}{P:PySem.Fin->Shared->Prop}(ho:s.heap.get? a=some (seqObj "list" vs.toArray n))(hl:ks.length=vs.length)
  (hk:∀ (i:Nat) (x:List KA) (v:Value),ks[i]? = some x->vs[i]? = some v->∃ b,v = .ref b/\IsTupleKey (kaKind prog w) s.heap x b) (kin:∀ x∈ks,Kin f x) (nd:ks.Nodup) (h64:vs.length < 64)
  (h:∀ p:Array Nat,PP vs.length p->Asc (ltI ks) p vs.length->P (.done (.ret .none)) { s with heap:=sortedHeap s.heap a vs (List.toArray (p.toList.map λ i=>vs.getD i Value.none)) }) :
  wpAny (model prog w) A (Builtin.«list.sort» ⟨[.ref a],[]⟩) P E s:=by
 rw [list_sort_plain]
 have ha:a < s.heap.objs.size:=aO ho
 refine ag (listItems_at ho rfl ?_)
 refine ag (listUpdate_at ho rfl ?_ (by rw [bO,sizeLine_eq];exact az (au ‹_› (by decide))) (bR _))
 obtain⟨e1,ho1⟩:∃ e1,(s.heap.update a (Obj.mapSeq λ _=>#[])).get? a=some (seqObj "list" #[] e1):=⟨_,get?_update_seq ho (λ _=>#[])⟩
 refine ag (seqEpoch_at ho1 rfl ?_)
 refine ag (wpAny_newTuple ?_ (by show vs.length<=_;rw [sizeLine_eq];exact az (au ‹_› (by decide))))
 refine ag (wpAny_newList ?_ (bR _))
 refine aP ?_
 have ho6:(((s.heap.update a (Obj.mapSeq λ _=>#[])).push (seqObj "tuple" vs.toArray 0)).push (seqObj "list" #[] 0)).get? a=some (seqObj "list" #[] e1):=by
  rw [Heap.get?_push_ne _ _ _ (by rw [size_push',Heap.size_update];exact aF (bf ha)),Heap.get?_push_ne _ _ _ (by rw [Heap.size_update];exact aF ha)]
  exact ho1
 show wpAny (model prog w) A _ P E { s with heap:=((s.heap.update a (Obj.mapSeq λ _=>#[])).push (seqObj "tuple" vs.toArray 0)).push (seqObj "list" #[] 0) }
 dsimp only
 have keep:∀ b o,b≠a->s.heap.get? b=some o->(((s.heap.update a (Obj.mapSeq λ _=>#[])).push (seqObj "tuple" vs.toArray 0)).push (seqObj "list" #[] 0)).get? b=some o:=λ b o hb e=>ay _ (ay _ ((Heap.get?_update_other _ _ (cp hb)).trans e))
 have hk6:∀ (i:Nat) (x:List KA) (v:Value),ks[i]? = some x->vs[i]? = some v->∃ b,v = .ref b/\IsTupleKey (kaKind prog w) (((s.heap.update a (Obj.mapSeq λ _=>#[])).push (seqObj "tuple" vs.toArray 0)).push (seqObj "list" #[] 0)) x b:=λ i x v h1 h2=>by
  refine E12 (hk i x v h1 h2) λ b e q7=>?_;obtain⟨o,items,c,hb,hc,r⟩:=q7
  refine⟨b,e,o,items,c,keep b o (λ e=>?_) hb,hc,r⟩
  subst e
  rw [ho]at hb;cases hb
  exact absurd hc (by show ¬ Value.type "list" = Value.type "tuple";decide)
 generalize hs6:({ s with heap:=((s.heap.update a (Obj.mapSeq λ _=>#[])).push (seqObj "tuple" vs.toArray 0)).push (seqObj "list" #[] 0) }:Shared)=s6
 have ho6':s6.heap.get? a=some (seqObj "list" #[] e1):=by rw [<- hs6];exact ho6
 have hk6':∀ (i:Nat) (x:List KA) (v:Value),ks[i]? = some x->vs[i]? = some v->∃ b,v = .ref b/\IsTupleKey (kaKind prog w) s6.heap x b:=by rw [<- hs6];exact hk6
 have fin:∀ p:Array Nat,PP vs.length p->Asc (ltI ks) p vs.length->P (.done (.ret .none)) { s6 with heap:=s6.heap.update a (Obj.mapSeq λ _=>List.toArray (p.toList.map λ i=>vs.getD i Value.none)) }:=λ p h1 h2=>by
  rw [<- hs6];exact h p h1 h2
 by_cases h2:vs.toArray.size < 2
 ·rw [aB h2,aB h2]
  refine ag (ai ?_)
  rw [StateT.run_pure]
  refine ag (ai ?_)
  dsimp only
  refine ag (seqEpoch_at ho6' rfl ?_)
  have h2':vs.length < 2:=by simpa using h2
  have eout:(arrOf (SortSt.mk' general' (vs.toArray.zip vs.toArray) #[] 7 none)).map (·.2)=List.toArray ((List.range vs.length).toArray.toList.map λ i=>vs.getD i Value.none):=by
   apply Array.toList_inj.mp
   show ((vs.toArray.zip vs.toArray).map (·.2)).toList=_
   have:∀ l:List Value,l.map id=(List.range l.length).map λ i=>l.getD i Value.none:=λ l=>by
    refine List.ext_getElem (by simp) λ i h1 h2=>?_
    have hi:i < l.length:=by simpa using h1
    simp [hi]
   simp
   have h3:=this vs
   simp at h3
   rw [<- h3]
   exact zis vs
  rw [eout]
  refine ag (listUpdate_at ho6' rfl ?_ (bR _) (by rw [bO,ah,sizeLine_eq];simp;exact az (au ‹_› (by decide))))
  simp only [bne_self_eq_false,bQ,if_false]
  exact ai (fin _ (zg1 _) λ i j hij hj=>by lia)
 ·rw [aw h2,aw h2]
  have h2':2<=vs.length:=by simp at h2;assumption
  have O:=zku kin nd
  rw [hl]at O
  obtain⟨fs,hfs,hty⟩:∃ fs,KatTups s6.heap vs fs/\(fs.length=vs.length/\∀ v∈fs,Looks (model prog w) s6.heap (typeOf v) (.type (if f then "str" else "int"))):=by
   exact zko ks vs hl kin hk6'
  refine ag (kat_kind hfs (by exact nvn ‹_› ‹_›) hty.2 (by simp) ?_)
  have eb:(Value.type (if f then "str" else "int") != Value.type "tuple")=true:=by cases f <;> decide
  rw [eb]
  refine ag (kat_run (ks:=vs) (Q:=λ st' s'=>s'=s6/\∃ p:Array Nat,PP vs.length p/\Asc (ltI ks) p vs.length/\arrOf st'=p.map (kas_item (vs.toArray.zip vs.toArray))/\failedOf st'=none) (G:=λ p s'=>s'=s6/\PP vs.length p/\Asc (ltI ks) p vs.length)
   rfl h2' h64 (λ p st' s' _ a2 a3 a4=>⟨a4.1,p,a4.2.1,a4.2.2,a2,a3⟩) (ziM O (λ i j C hi hj hC=>?_) h2' λ p a1 a2=>⟨rfl,a1,a2⟩) |> λ x=>am x ?_ λ _ _ e=>e)
  ·rintro⟨⟨⟩,st'⟩ s' ⟨rfl,p,a1,a2,a3,a4⟩
   dsimp only
   have hout:=kat_snds (ks:=vs) rfl a3
   rw [hout]
   refine ag (seqEpoch_at ho6' rfl ?_)
   refine ag (listUpdate_at ho6' rfl ?_ (bR _) (by rw [bO,ah,aE,a1.size,sizeLine_eq];exact aQ (az (au ‹_› (by decide)))))
   rw [a4]
   simp only [bne_self_eq_false,bQ,if_false]
   exact ai (fin p a1 a2)
  ·unfold kas_ask
   have gk:∀ i,i < vs.length->∃ x b,ks.getD i []=x/\x∈ks/\vs.getD i Value.none = .ref b/\IsTupleKey (kaKind prog w) s6.heap x b:=λ i hi=>by
    have hi':i < ks.length:=by exact bP ‹_› (bo ‹_›)
    refine E12 (hk6' i ks[i] vs[i] (al hi') (al hi)) λ b e hb=>?_
    exact⟨ks[i],b,by rw [aA,al hi'];rfl,List.getElem_mem hi',by rw [aA,al hi];exact e,hb⟩
   refine E24 (gk i hi) λ x b x1 x2 x3 q7=>?_;obtain⟨o,xs,c,x4,x5,x6,x7⟩:=q7
   refine E24 (gk j hj) λ y d y1 y2 y3 q7=>?_;obtain⟨o',ys,c',y4,y5,y6,y7⟩:=q7
   rw [x3,y3]
   refine kat_lt x4 x6 y4 y6 ?_
   have:=zkh (A:=A) (s:=s6) (Q:=C) x7 y7 (kin x x2) (kin y y2) (by unfold ltI at hC;rw [x1,y1]at hC;exact hC)
   simpa using this
end
/-! sets of tuples and their sorting in the own logic -/
noncomputable def tupV (k:List KA):V:=.tup (k.map KA.toV)
section
variable {prog:Program}{w:World}{a:Nat}{T:List (List KA × Nat)}
theorem TSet.at {h h':Heap}(S:TSet prog w h a T)(k:∀ o,h.get? a=some o->h'.get? a=some o)(kk:∀ q∈T,IsTupleKey (kaKind prog w) h' q.1 q.2):TSet prog w h' a T:=by
 refine E52 (S) λ m Z es ep t S hr=>?_
 exact⟨m,Z,es,ep,t,⟨k _ S.at_,S.ht,S.led,S.plain,S.perm,kk,S.nd⟩,hr⟩
theorem TSet.new {h:Heap}(ho:h.get? a=some { cls:=.type "set",dict:=none,data:=.set #[] 0 (.fresh 0 0 (!byText w)) }):TSet prog w h a [] :=
 ⟨7,[],#[],0,_,⟨ho,.init 7 (.inl rfl) _ rfl rfl rfl,rfl,rfl,.nil,(λ q h=>by cases h),.nil⟩,.inl ⟨rfl,by decide⟩⟩
end
theorem zgQ {g:Gh}{vs us:List Value}(p:vs.Perm us):∀ {ks:List (List KA)},VRs g (ks.map tupV) us->∃ ls:List (List KA),VRs g (ls.map tupV) vs/\ls.Perm ks:=by
 induction p with
 | nil=>intro ks h;exact⟨ks,h,.rfl⟩
 | cons x _ ih =>
  intro ks h
  cases ks with
  | nil=>cases h
  | cons k ks =>
   refine E23 (VRs.inv h) λ v vs' e h1 h2=>?_
   cases e
   refine E12 (ih h2) λ ls a1 a2=>?_
   exact⟨k :: ls,.cons h1 a1,a2.cons _⟩
 | swap x y l =>
  intro ks h
  cases ks with
  | nil=>cases h
  | cons k ks =>
   refine E23 (VRs.inv h) λ v vs' e h1 h2=>?_
   cases e
   cases ks with
   | nil=>cases h2
   | cons k' ks =>
    refine E23 (VRs.inv h2) λ v' vs'' e' h3 h4=>?_
    cases e'
    exact⟨k' :: k :: ks,.cons h3 (.cons h1 h4),.swap _ _ _⟩
 | trans _ _ ih1 ih2 =>
  intro ks h
  refine E12 (ih2 h) λ ls h1 h2=>?_
  refine E12 (ih1 h1) λ ms h3 h4=>?_
  exact⟨ms,h3,h4.trans h2⟩
section
variable {X:Ctx}{l:Nat}{R:Nat->Option Obj}{env:Env}{ρ:Loc}{μ:Mem}{g:Gh}{s:Shared}
theorem Rep.redraw (r:Rep X R env ρ g μ s)(d:Drawn):Rep X R env ρ g μ { s with drawn:=d }:=⟨r.baseR,r.res,r.above,r.im,r.imr,r.mu,r.dom,r.sep,r.off,r.fr,r.gens,r.os,trivial⟩
theorem Rep.tk (r:Rep X R env ρ g μ s){k:List KA}{v:Value}(h:VR g (tupV k) v):∃ b,v = .ref b/\g.im b=some (tupV k)/\IsTupleKey (kaKind X.prog X.w) s.heap k b:=by
 obtain⟨b,rfl,h⟩:=h
 exact⟨b,rfl,h,r.tkey h⟩
theorem CV.setT {x:V}{kss:List (List KA)}{Q:V->Mem->Prop}(hx:RdL μ x (kss.map tupV))(ht:∀ k∈kss,∃ y r,k = .s y :: r)(hz:kss.length<=17)
  (q:∀ ls:List (List KA),ls.Nodup->(∀ k,k∈ls↔k∈kss)->Q (.set (!byText X.w) (ls.map tupV)) μ):CV X (l+1) R env ρ μ (.type "set") [x] Q:=cv1 λ g v vr A s ao r=>by
 refine E23 (r.list hx vr) λ c items q9 hl hv=>?_;subst q9
 have hlen:kss.length=items.size:=by have:=hv.length;simpa using this
 have hu:A.units+8 < cLine:=by have:=ao.units;exact nro (by decide) ‹_›
 have old:∀ {h':Heap} {q:List KA × Nat},(∀ b o,s.heap.get? b=some o->h'.get? b=some o)->g.im q.2=some (tupV q.1)->IsTupleKey (kaKind X.prog X.w) h' q.1 q.2:=λ {h' q} k e=>by
  refine E32 (r.tkey e) λ o it n ho rest=>?_
  exact⟨o,it,n,k _ _ ho,rest⟩
 refine zfA (λ i h=>(∀ b o,s.heap.get? b=some o->h.get? b=some o)/\∃ T,TSet X.prog X.w h s.heap.objs.size T/\(∀ q∈T,g.im q.2=some (tupV q.1))/\(∀ k,k∈T.map (·.1)↔k∈kss.take i)/\T.length<=i) ao.handled hu hl.isList ?_ ?_ ?_ λ h' t kp hj=>?_
 ·rintro i h h' ⟨h1,T,h2,h3,h4⟩ k
  have hb:∀ b o,s.heap.get? b=some o->h'.get? b=some o:=λ b o e=>k b o (by have:=aO e;exact aF (bf this)) (h1 b o e)
  exact⟨hb,T,h2.at (λ o e=>k _ o (aF (bw _)) e) (λ q hq=>old hb (h3 q hq)),h3,h4⟩
 ·intro h hk ho
  exact⟨hk,[],.new ho,by simp,by simp,an _⟩
 ·rintro A' E hu' i v s' Q' hi ⟨h1,T,h2,h3,h4,h5⟩ hq
  have hi':i < kss.length:=by rw [hlen];exact(Array.getElem?_eq_some_iff.mp hi).1
  refine E12 (hv.get (i:=i) (x:=tupV kss[i]) (by rw [aD,al hi'];rfl)) λ v' hv' vr'=>?_
  have e:v'=v:=by
   have:items.toList[i]? = some v:=by simpa using hi
   rw [this]at hv';exact(Option.some.inj hv').symm
  subst e
  refine E13 (r.tk vr') λ b q9 him hkey=>?_;subst q9
  refine E21 (ht kss[i] (List.getElem_mem hi')) λ y rr ek=>?_
  have hk':IsTupleKey (kaKind X.prog X.w) s'.heap (.s y :: rr) b:=by
   rw [<- ek];exact old (q:=(kss[i],b)) h1 him
  refine zfS hu' h2 (by exact nsx ‹_› ‹_› ‹_›) hk' λ b' h' t' k1 k2=>hq b' h' t' k1 ⟨λ c o e=>(k1.2 c (aF (aO e))).trans (h1 c o e),_,k2,?_,?_,?_⟩
  ·intro q hq'
   split at hq'
   ·exact h3 q hq'
   ·rcases List.mem_append.mp hq' with a | a
    ·exact h3 q a
    ·rw [aZ]at a;subst a;rw [<- ek];exact him
  ·intro k
   have et:kss.take (i+1)=kss.take i ++ [KA.s y :: rr]:=by rw [aK,al hi',<- ek];rfl
   rw [et,List.mem_append,aZ,<- h4 k]
   split
   ·rename_i hm
    exact⟨.inl,λ h=>h.elim id λ e=>by rw [e];exact hm⟩
   ·rw [ax,List.mem_append];simp
  ·split
   ·exact aQ h5
   ·rw [aC];exact br h5
 ·obtain⟨h1,T,⟨m,Z,es,ep,t2,S,hr⟩,h3,h4,h5⟩:=hj
  have hvals:(es.toList.map (·.2)).Perm (T.map λ q=>Value.ref q.2):=by
   have e:es.toList.map (·.2)=(Z.map (·.2)).map (·.2):=by rw [S.ht.es]
   rw [e]
   refine(S.perm.map (·.2)).trans (List.Perm.of_eq ?_)
   rw [bv];rfl
  have hvT:VRs g ((T.map (·.1)).map tupV) (T.map λ q=>Value.ref q.2):=by
   clear S hvals h4 h5 hr
   induction T with
   | nil=>exact .nil
   | cons q T ih=>exact .cons ⟨q.2,rfl,h3 q (.head _)⟩ (ih λ q' hq'=>h3 q' (.tail _ hq'))
  refine E12 (zgQ hvals hvT) λ ls a1 a2=>?_
  have hall:(ls.map tupV).all V.isTup=true:=by
   rw [List.all_eq_true]
   intro v hv'
   obtain⟨k,_,rfl⟩:=List.mem_map.mp hv'
   rfl
  have hZm:Z.length<=m:=by rw [TS.len (s:={ s with heap:=h' }) S];exact hr.le
  obtain⟨le,r1⟩:=r.newIm (s':={ s with heap:=h',toks:=t }) (v:=.set (!byText X.w) (ls.map tupV)) (n:=s.heap.objs.size) (an _) kp ⟨es,ep,t2,S.at_,S.ht.ok hZm,.inr hall,S.led,a1⟩ rfl rfl rfl
  refine⟨_,_,le,r1,.set (!byText X.w) (ls.map tupV),⟨_,rfl,by simp [Gh.newIm]⟩,q ls (a2.nodup_iff.mpr S.nd) λ k=>?_⟩
  rw [a2.mem_iff,h4 k,<- hlen,aV]
theorem zev {f:Bool}{ks:List (List KA)}{vs:List Value}{Q:V->Mem->Prop}{D:Nat}{A:Around}(r:Rep X R env ρ g μ s)(fD:Fre R env g D)(hD:s.heap.get? D=some (seqObj "list" vs.toArray 0))(hv:VRs g (ks.map tupV) vs)(kin:∀ k∈ks,Kin f k)(nd:ks.Nodup)(hn:ks.length < 64)
  (q:∀ l':List (List KA),l'.Perm ks->l'.Pairwise (λ a b=>ltK a b=true)->NewList μ (l'.map tupV) Q) :
  wpAny (model X.prog X.w) A (call (.builtin "list.sort") [.ref D]) (λ _ s'=>TPst X R env ρ g (VPst Q) (.ref D) s') (λ _ _=>False) s:=by
 have hl:ks.length=vs.length:=by have:=hv.length;rwa [ah]at this
 refine bq PyProof.Rows.slot_list_sort ⟨_,hD,rfl⟩ PyProof.Rows.entry_list_sort (zeY (f:=f) (ks:=ks) (n:=0) hD hl (λ i x v h1 h2=>?_) kin nd (by rw [<- hl];exact hn) λ p P Ap=>⟨.none,rfl,?_⟩) (PyProof.Rows.args_list_sort _)
 ·refine E12 (hv.get (i:=i) (x:=tupV x) (by rw [aD,h1];rfl)) λ v' e vr=>?_
  rw [h2]at e;cases e
  refine E13 (r.tk vr) λ b e _ hk=>?_
  exact⟨b,e,hk⟩
 ·obtain⟨c,hc⟩:=sortedHeap_at (out:=List.toArray (p.toList.map λ i=>vs.getD i Value.none)) hD
  have r2:Rep X R env ρ g μ { s with heap:=sortedHeap s.heap D vs (List.toArray (p.toList.map λ i=>vs.getD i Value.none)) }:=r.but fD (λ b o ne e=>(sortedHeap_old ne (aO e)).trans e) rfl rfl rfl
  have hp:∀ i∈p.toList,i < ks.length:=λ i hi=>by rw [hl];exact List.mem_range.mp (P.perm.mem_iff.mp hi)
  have hout:VRs g ((p.toList.map λ i=>ks.getD i []).map tupV) (p.toList.map λ i=>vs.getD i Value.none):=by
   generalize p.toList=is at hp
   induction is with
   | nil=>exact .nil
   | cons i is ih =>
    refine .cons ?_ (ih λ j hj=>hp j (.tail _ hj))
    have hi:=hp i (.head _)
    refine E12 (hv.get (i:=i) (x:=tupV ks[i]) (by rw [aD,al hi];rfl)) λ v' e vr=>?_
    have e1:ks.getD i []=ks[i]:=by rw [aA,al hi];rfl
    have e2:vs.getD i Value.none=v':=by rw [aA,e];rfl
    show VR g (tupV (ks.getD i [])) (vs.getD i Value.none)
    rw [e1,e2]
    exact vr
  refine r2.adoptLst (items:=List.toArray (p.toList.map λ i=>vs.getD i Value.none)) fD ⟨c,hc⟩ hout (q _ ?_ ?_)
  ·have h1:=P.perm.map λ i=>ks.getD i []
   rw [<- hl]at h1
   refine h1.trans (List.Perm.of_eq ?_)
   refine List.ext_getElem (by simp) λ i h1 h2=>?_
   rw [List.getElem_map,List.getElem_range,aA,al h2];rfl
  ·rw [List.pairwise_map,List.pairwise_iff_getElem]
   intro i j hi hj hij
   have hz:=P.size
   have hi':i < p.size:=by simpa using hi
   have hj':j < p.size:=by simpa using hj
   have:=Ap i j hij (by exact nvl ‹_› ‹_›)
   have e1:p.getD i 0=p.toList[i]:=by simp [Array.getD,hi']
   have e2:p.getD j 0=p.toList[j]:=by simp [Array.getD,hj']
   rw [e1,e2]at this
   exact this
theorem CV.sortedSetT {f:Bool}{ls:List (List KA)}{Q:V->Mem->Prop}(nd:ls.Nodup)(kin:∀ k∈ls,Kin f k)(hn:ls.length<=17)(q:∀ l':List (List KA),l'.Perm ls->l'.Pairwise (λ a b=>ltK a b=true)->NewList μ (l'.map tupV) Q) :
  CV X l R env ρ μ (.builtin "sorted") [.set (!byText X.w) (ls.map tupV)] Q:=cv1 λ g v vr A s ao r=>by
 refine E47 (r.setE vr) λ a es ep t q9 ho hf hri hle hv hp=>?_;subst q9
 have hlen:ls.length=(es.toList.map (·.2)).length:=by have:=hv.length;rwa [ah]at this
 refine sortedS (w:=X.w) ao.handled ⟨es,ep,t,ho,hf,hri,hle,rfl⟩ (by rw [<- hlen];exact hn) λ h' tk d vs hk hperm=>?_
 refine E12 (zgQ hperm hv) λ ks a1 a2=>?_
 have keep:∀ b o,s.heap.get? b=some o->(h'.push { cls:=.type "list",data:=.seq vs.toArray }).get? b=some o:=λ b o e=>ay _ (hk b o e)
 have r1:Rep X R env ρ g μ { s with heap:=h'.push { cls:=.type "list",data:=.seq vs.toArray },toks:=tk,drawn:=d }:=(r.keepAll (s':={ s with heap:=h'.push { cls:=.type "list",data:=.seq vs.toArray },toks:=tk }) keep rfl rfl rfl).redraw d
 have fD:Fre R env g h'.objs.size:=by
  have hge:s.heap.get? h'.objs.size=none:=by
   induction e:s.heap.get? h'.objs.size with
   | none=>rfl
   | some o=>exact absurd (aO (hk _ _ e)) (bj _)
  refine .gone r hge λ e=>?_
  obtain⟨o,ho⟩:=r.own_some (a:=env.locals) (.inl rfl)
  rw [<- e,hge]at ho;cases ho
 refine am (zev (A:=A.in1) (f:=f) r1 fD (aJ _ rfl) a1 (λ k hk'=>kin k (a2.mem_iff.mp hk')) (a2.nodup_iff.mpr nd) (by rw [a2.length_eq];lia) λ l' b1 b2=>q l' (b1.trans a2) b2) (λ _ s' x=>x) λ _ _ e=>e.elim
end
/-! sorting a list of tuples -/
section
variable {X:Ctx}{l:Nat}{R:Nat->Option Obj}{env:Env}{ρ:Loc}{μ:Mem}{g:Gh}{s:Shared}
theorem CV.sortedT {f:Bool}{x:V}{ks:List (List KA)}{Q:V->Mem->Prop}(hx:RdL μ x (ks.map tupV))(nd:ks.Nodup)(kin:∀ k∈ks,Kin f k)(hn:ks.length<=17)(q:∀ l':List (List KA),l'.Perm ks->l'.Pairwise (λ a b=>ltK a b=true)->NewList μ (l'.map tupV) Q) :
  CV X l R env ρ μ (.builtin "sorted") [x] Q:=cv1 λ g v vr A s ao r=>by
 refine E23 (r.list hx vr) λ a items q9 hl hv=>?_;subst q9
 have hlen:ks.length=items.toList.length:=by have:=hv.length;rwa [ah]at this
 generalize hvs:items.toList=vs at hv hlen
 have hl':s.heap.IsList a vs.toArray:=by rw [<- hvs];simpa using hl.isList
 refine call_function_entry kind_sorted plain_sorted entry_sorted (args_sorted1 _) ?_
 unfold Builtin.«sorted»
 refine ag (m:=checkCount "sorted" 1 1 _) (ai ?_)
 refine ag (collect_list hl' ?_ (by rw [sizeLine_eq];lia))
 refine ag (wpAny_newList ?_ (by rw [sizeLine_eq];lia))
 have hsz:((s.heap.push (seqObj "list" #[] 0)).update s.heap.objs.size (Obj.mapSeq (· ++ vs.toArray))).objs.size=s.heap.objs.size+1:=by
  rw [Heap.size_update,size_push']
 have hoL:(((s.heap.push (seqObj "list" #[] 0)).update s.heap.objs.size (Obj.mapSeq (· ++ vs.toArray))).push (seqObj "list" vs.toArray 0)).get? (s.heap.objs.size+1)=some (seqObj "list" vs.toArray 0):=by
  rw [<- hsz];exact aJ _ rfl
 have keep:∀ b o,s.heap.get? b=some o->(((s.heap.push (seqObj "list" #[] 0)).update s.heap.objs.size (Obj.mapSeq (· ++ vs.toArray))).push (seqObj "list" vs.toArray 0)).get? b=some o:=λ b o q=>by
  have hlt:b < s.heap.objs.size:=aO q
  rw [Heap.get?_push_ne _ _ _ (by rw [hsz];exact aF (bf hlt)),Heap.get?_update_ne _ _ _ _ (aF hlt),Heap.get?_push_ne _ _ _ (aF hlt)]
  exact q
 show wpAny _ _ _ _ _ { s with heap:=((s.heap.push (seqObj "list" #[] 0)).update s.heap.objs.size (Obj.mapSeq (· ++ vs.toArray))).push (seqObj "list" vs.toArray 0) }
 rw [hsz]
 have r1:Rep X R env ρ g μ { s with heap:=((s.heap.push (seqObj "list" #[] 0)).update s.heap.objs.size (Obj.mapSeq (· ++ vs.toArray))).push (seqObj "list" vs.toArray 0) }:=r.keepAll keep rfl rfl rfl
 have fD:Fre R env g (s.heap.objs.size+1):=.newest r (bA _) (zaM r)
 generalize ((s.heap.push (seqObj "list" #[] 0)).update s.heap.objs.size (Obj.mapSeq (· ++ vs.toArray))).push (seqObj "list" vs.toArray 0)=h1 at r1 hoL ⊢
 refine ag (aP (am (zev (A:=A.in1) (f:=f) r1 fD hoL hv kin nd (by lia) q) (λ Y s' x=>?_) λ Y Y e=>e.elim))
 exact ai ⟨_,rfl,x⟩
end
/-! law 01: the draws -/
structure Feed (μ:Mem)(b:Nat):Prop where
 feed:∃ (cs:List Nat) (n:Nat),cs.length<=100/\n<=b/\μ (.h 17)=some (.list [.lst (cs.map VN),VN n])
noncomputable def FrD (μ dl:Mem):Prop:=∀ j,j ≠ .h 17->dl j=μ j
theorem FrD.hs {μ dl:Mem}(F:FrD μ dl){w:Nat}{S:St}(H:HS μ w S):HS dl w S:=H.keep λ j h=>F j (λ e=>by subst e;cases h)
theorem FrD.fresh {μ dl:Mem}(F:FrD μ dl){k:Nat}(f:Fresh k μ):Fresh k dl:=λ j h=>(F _ (by first | exact aI rfl | simp)).trans (f j h)
theorem FrD.bd {μ dl:Mem}(F:FrD μ dl){w:Nat}{nodes:List Nd}(B:Bd μ w nodes):Bd dl w nodes :=
 ⟨F.hs B.H,⟨(F _ (by decide)).trans B.E.es,λ c h=>by
  obtain⟨l,h1,h2⟩:=B.E.val c h
  exact⟨l,h1,(F _ (by first | exact aI rfl | simp)).trans h2⟩,B.E.no,λ c h=>(F _ (by first | exact aI rfl | simp)).trans (B.E.fresh c h)⟩,λ c h=>(F _ (by first | exact aI rfl | simp)).trans (B.lots c h)⟩
theorem Feed.keep {μ dl:Mem}{b:Nat}(B:Feed μ b)(h1:dl (.h 17)=μ (.h 17)):Feed dl b:=by
 obtain⟨cs,n,h2,h3,h5⟩:=B
 exact⟨cs,n,h2,h3,h1.trans h5⟩
theorem Feed.le {μ:Mem}{b b':Nat}(B:Feed μ b)(h:b<=b'):Feed μ b':=by
 obtain⟨cs,n,h2,h3,h5⟩:=B
 exact⟨cs,n,h2,nT h3 h,h5⟩
theorem mulOk {a b:Int}(h0:0<=a)(h:a<=100000000):IntMulOk a b:=.of_left (PySem.intBits_le_64 (by lia) (by lia))
theorem fmodN (a m:Nat):((a:Int)).fmod (m:Int)=((a % m:Nat):Int):=by
 rw [Int.fmod_eq_emod_of_nonneg _ (by exact Int.natCast_nonneg _)];rfl
section
variable {X:Ctx}{l:Nat}{μ:Mem}
variable {R:Nat->Option Obj}{env:Env}{ρ:Loc}{w:Nat}{S S':St}
theorem zii {b m:Nat}{Q:V->Mem->Prop}(B:Feed μ b)(hb:b<=1000)(hm:1<=m)(q:∀ r dl,r < m->Feed dl (b+1)->FrD μ dl->Q (VN r) dl):Cs X (l+3) (.ref zbx) [.ref (.h 17),VN m] μ Q:=by
 obtain⟨cs,n,c1,n1,c3⟩:=B
 refine zgn λ R L=>bJ<|cP<|ak .here ?_
 refine Up.e2 [(("feed":Str),V.ref (.h 17)),("wide",VN m)] "cells" (.lst (cs.map VN)) "spot" (VN n) λ dE u1 dH u2=>?_
 refine da<|UN.list (.ref c3) rfl<|bI<|ba (.inl rfl) u1<|bI<|ba (.inl rfl) u2<|cX ⟨rfl,?_⟩
 have nf:=u2.lk' (u1.lk' .here (by decide)) (by decide)
 have nw:=u2.lk' (u1.lk' (.there .here) (by decide)) (by decide)
 have nc:=u2.lk' u1.lk (by decide)
 have ns:=u2.lk
 clear u1 u2
 refine XB.setI<|cF<|ak ns<|cT (n:=1)<|P2.addN<|ak nf<|cT (n:=1)<|SI.list (i:=1) c3 (by first | exact aI rfl | simp) (szr rfl) ?_
 have f1:FrD μ (μ.set (.h 17) (.list ([V.lst (cs.map VN),VN n].set 1 (VN (n+1))))):=λ j h=>av h
 have g1:(μ.set (.h 17) (.list ([V.lst (cs.map VN),VN n].set 1 (VN (n+1))))) (.h 17)=some (.list [.lst (cs.map VN),VN (n+1)]):=aN
 generalize μ.set (.h 17) (.list ([V.lst (cs.map VN),VN n].set 1 (VN (n+1))))=dG at f1 g1 ⊢
 have fin:∀ x:Nat,Q (.int (((x:Nat):Int).fmod (m:Nat))) dG:=λ x=>by
  rw [fmodN]
  exact q (x % m) dG (Nat.mod_lt _ hm) ⟨cs,n+1,c1,br n1,g1⟩ f1
 have n100:n<=1000:=nT n1 hb
 refine cZ<|cr<|ak ns<|cB (.builtin "len") (aj<|ak nc<|aq<|cW .lst (by rw [ah];exact nT c1 (nB rfl)) ?_)
 rw [ah]
 refine P2.ltN<|bz ⟨λ hc=>?_,λ hc=>di ?_⟩
 ·have hlt:n < cs.length:=by simpa using hc
  exact bZ<|cF<|cC<|ak nc<|ak ns<|bX .lst (nT n100 (by decide)) (by rw [aD,al hlt];rfl)<|ak nw<|P2.modI (by simp;exact bu hm) ⟨λ e=>dead e,λ x e=>by cases e;exact fin _⟩
 ·refine bZ<|cF<|cF<|cF<|cF<|cT (n:=7)<|ak ns<|P2.mulI (mulOk (by decide) (by decide))<|cT (n:=5)<|P2.addI<|cT (n:=31)<|P2.modI (by decide) ?_
  have:=fin ((7 * n+5) % 31)
  rw [<- fmodN]at this
  have e:((7 * n+5:Nat):Int)=((7:Nat):Int) * (n:Nat)+((5:Nat):Int):=by push_cast;rfl
  rw [e]at this
  exact ak nw<|P2.modI (by simp;exact bu hm) this
theorem W.draw {e:Expr}{p1 p2 p3:Pos}{b:Nat}{Q:V->Mem->Prop}(hk:env.kindOf "_law_draw" = some .globalImplicit)(hb:Lk ρ "feed" (.ref (.h 17)))(hbb:b<=1000)(h:W X (l+3) R env ρ μ e λ v dp=>∃ m,v=VN m/\1<=m/\Feed dp b/\∀ r dl,r < m->Feed dl (b+1)->FrD dp dl->Q (VN r) dl)
  (hp:true=noStar [e]:=by exact rfl) :
  W X (l+3) R env ρ μ (.Call (.Name "_law_draw" p1) [.Name "feed" p2,e] [] p3) Q:=by
 refine de (f:=.ref zbx) (cS hk (by kernel_rfl) ⟨rfl,aj (ak hb<|aj (h.mono ?_) hp)⟩) (by kernel_rfl) hp
 rintro v dp ⟨m,rfl,hm,B,q⟩
 exact aq<|aU<|zii B hbb hm q
end
/-! law 01: terms and their numbers -/
theorem za2 {n:Nat}:(rngV 0 ((n:Nat):Int)).length=n:=by unfold rngV;simp
inductive Kn (N:List Nd):Nat->V->Nat->Prop
 | mk {d:Nat} {op:Str} {vs:List V} {ks:List Nat} {i:Nat} (hl:vs.length=ks.length) (hz:vs.length<=2) (hs:∀ (j:Nat) (v:V) (k:Nat),vs[j]? = some v->ks[j]? = some k->Kn N d v k) (hi:N.idxOf? (op,ks)=some i):Kn N (d+1) (.tup (.str op :: vs)) i
theorem zjI {N r:List Nd}{x:Nd}{i:Nat}(h:N.idxOf? x=some i):(N ++ r).idxOf? x=some i:=by
 unfold List.idxOf? at h ⊢
 rw [List.findIdx?_append,h];rfl
theorem zj6 {N:List Nd}{x:Nd}{i:Nat}(h:N.idxOf? x=some i):i < N.length:=by
 unfold List.idxOf? at h
 exact(List.findIdx?_eq_some_iff_getElem.mp h).1
theorem zj4 {N:List Nd}{x:Nd}{i:Nat}(h:N.idxOf? x=some i):N[i]? = some x:=by
 unfold List.idxOf? at h
 obtain⟨h1,h2,_⟩:=List.findIdx?_eq_some_iff_getElem.mp h
 rw [al h1,eq_of_beq h2]
theorem zi5 {N:List Nd}{x:Nd}(h:N.idxOf? x=none):x∉N:=λ hm=>by
 unfold List.idxOf? at h
 have:=List.findIdx?_eq_none_iff.mp h x hm
 simp at this
theorem zjQ {N:List Nd}{x:Nd}(h:N.idxOf? x=none):(N ++ [x]).idxOf? x=some N.length:=by
 unfold List.idxOf? at h ⊢
 rw [List.findIdx?_append,h,List.findIdx?_cons]
 simp
theorem Kn.lt {N:List Nd}{d:Nat}{v:V}{k:Nat}(h:Kn N d v k):k < N.length:=by
 induction h with
 | mk _ _ _ hi=>exact zj6 hi
theorem Kn.app {N r:List Nd}{d:Nat}{v:V}{k:Nat}(h:Kn N d v k):Kn (N ++ r) d v k:=by
 induction h with
 | mk hl hz _ hi ih=>exact .mk hl hz ih (zjI hi)
theorem Kn.up {N:List Nd}{d:Nat}{v:V}{k:Nat}(h:Kn N d v k):∀ {d'},d<=d'->Kn N d' v k:=by
 induction h with
 | mk hl hz _ hi ih =>
  intro d' h
  cases d' with
  | zero=>exact absurd h (Nat.not_succ_le_zero _)
  | succ d'=>exact .mk hl hz (λ j v k h1 h2=>ih j v k h1 h2 (Nat.le_of_succ_le_succ h)) hi
inductive TL:List V->Prop
 | base:TL [.tup [.str "a"],.tup [.str "b"]]
 | u {ts:List V} {o:V} (h:TL ts) (h1:o∈ts):TL (ts ++ [.tup [.str "u",o]])
 | v {ts:List V} {o q:V} (h:TL ts) (h1:o∈ts) (h2:q∈ts):TL (ts ++ [.tup [.str "v",o,q]])
inductive TOn (ts:List V):V->Prop
 | mk (op:Str) (vs:List V) (ho:opOk op=true) (hz:vs.length<=2) (hs:∀ o∈vs,o∈ts):TOn ts (.tup (.str op :: vs))
theorem TL.at {ts:List V}(h:TL ts):∀ {i:Nat} {t:V},ts[i]? = some t->TOn (ts.take i) t:=by
 have step:∀ {ts:List V} {op:Str} {vs:List V} {i:Nat} {t:V},(∀ {i:Nat} {t:V},ts[i]? = some t->TOn (ts.take i) t)->opOk op=true->vs.length<=2->(∀ o∈vs,o∈ts)->(ts ++ [V.tup (.str op :: vs)])[i]? = some t->TOn ((ts ++ [V.tup (.str op :: vs)]).take i) t:=by
  intro ts op vs i t ih ho hz hs e
  rcases bN i ts.length with c | c
  ·rw [bG c]at e
   rw [List.take_append_of_le_length (az c)]
   exact ih e
  ·rw [cz c]at e
   have h0:i - ts.length=0:=by
    have:=(List.getElem?_eq_some_iff.mp e).1
    simp at this;exact this
   rw [h0]at e
   cases e
   have:i=ts.length:=by exact nrz ‹_› ‹_›
   rw [this,List.take_append_of_le_length (an _),aV]
   exact .mk op vs ho hz hs
 induction h with
 | base =>
  intro i t e
  match i,e with
  | 0,e=>cases e;exact .mk "a" [] (by decide +kernel) (by decide) (by simp)
  | 1,e=>cases e;exact .mk "b" [] (by decide +kernel) (by decide) (by simp)
 | u h h1 ih =>
  intro i t e
  exact step ih (by decide +kernel) (by exact nB rfl) (by simpa using h1) e
 | v h h1 h2 ih =>
  intro i t e
  exact step ih (by decide +kernel) (by exact nB rfl) (by simp [h1,h2]) e
theorem TL.ab {ts:List V}(h:TL ts):V.tup [.str "a"]∈ts/\V.tup [.str "b"]∈ts/\2<=ts.length/\ts[0]? = some (V.tup [.str "a"])/\ts[1]? = some (V.tup [.str "b"]):=by
 have app:∀ {ts:List V} {x:V},(V.tup [.str "a"]∈ts/\V.tup [.str "b"]∈ts/\2<=ts.length/\ts[0]? = some (V.tup [.str "a"])/\ts[1]? = some (V.tup [.str "b"]))->(V.tup [.str "a"]∈ts ++ [x]/\V.tup [.str "b"]∈ts ++ [x]/\2<=(ts ++ [x]).length/\(ts ++ [x])[0]? = some (V.tup [.str "a"])/\(ts ++ [x])[1]? = some (V.tup [.str "b"])):=λ {ts x} ⟨a,b,c,d,e⟩ =>
  ⟨cy _ a,cy _ b,by rw [aC];exact aQ (‹_›),by rw [bG (by exact cK ‹_›)];exact d,by rw [bG (by assumption)];exact e⟩
 induction h with
 | base=>exact⟨.head _,.tail _ (.head _),an _,rfl,rfl⟩
 | u _ _ ih=>exact app ih
 | v _ _ _ ih=>exact app ih
structure Put (ts:List V)(i:Nat)(N:List Nd):Prop where
 ok:Okn N
 len:N.length<=i
 known:∀ t∈ts.take i,∃ k,Kn N i t k
theorem zia {N:List Nd}{d:Nat}:∀ {vs:List V},(∀ o∈vs,∃ k,Kn N d o k)->∃ ks:List Nat,vs.length=ks.length/\(∀ k∈ks,k < N.length)/\∀ (j:Nat) (v:V) (k:Nat),vs[j]? = some v->ks[j]? = some k->Kn N d v k
 | [],_=>⟨[],rfl,by simp,λ j v k h=>by simp at h⟩
 | v :: vs,h=>by
  obtain⟨k,hk⟩:=h v (.head _)
  obtain⟨ks,a,b,c⟩:=zia λ o ho=>h o (.tail _ ho)
  refine⟨k :: ks,by simp [a],λ x hx=>?_,λ j v' k' h1 h2=>?_⟩
  ·rcases List.mem_cons.mp hx with rfl | hx
   ·exact hk.lt
   ·exact b x hx
  ·cases j with
   | zero=>cases h1;cases h2;exact hk
   | succ j=>exact c j v' k' h1 h2
theorem zcs {ts:List V}{i:Nat}{t x:V}(e:ts[i]? = some t)(h:x∈ts.take (i+1)):x∈ts.take i∨x=t:=by
 rw [aK,e]at h
 rcases List.mem_append.mp h with h | h
 ·exact .inl h
 ·exact .inr (by simpa using h)
theorem Put.old {ts:List V}{i:Nat}{N:List Nd}{op:Str}{vs:List V}{ks:List Nat}{n:Nat}(P:Put ts i N)(e:ts[i]? = some (.tup (.str op :: vs)))(hz:vs.length<=2)(hl:vs.length=ks.length)(hs:∀ (j:Nat) (v:V) (k:Nat),vs[j]? = some v->ks[j]? = some k->Kn N i v k)(hi:N.idxOf? (op,ks)=some n):Put ts (i+1) N :=
 ⟨P.ok,aQ P.len,λ t ht=>by
  rcases zcs e ht with h | rfl
  ·obtain⟨k,hk⟩:=P.known t h
   exact⟨k,hk.up (bA _)⟩
  ·exact⟨n,.mk hl hz hs hi⟩⟩
theorem Put.new {ts:List V}{i:Nat}{N:List Nd}{op:Str}{vs:List V}{ks:List Nat}(P:Put ts i N)(h10:i<=10)(e:ts[i]? = some (.tup (.str op :: vs)))(hz:vs.length<=2)(hl:vs.length=ks.length)(hk:∀ k∈ks,k < N.length)(hs:∀ (j:Nat) (v:V) (k:Nat),vs[j]? = some v->ks[j]? = some k->Kn N i v k)(hi:N.idxOf? (op,ks)=none):Put ts (i+1) (N ++ [(op,ks)]):=by
 have hlen:=P.len
 refine⟨⟨by rw [aC,bS];exact br (nT ‹_› ‹_›),λ nd hnd=>?_,?_⟩,by rw [aC,bS];exact br (‹_›),λ t ht=>?_⟩
 ·rw [aC,bS]
  rcases List.mem_append.mp hnd with h | h
  ·obtain⟨a,b⟩:=P.ok.kids nd h
   exact⟨a,λ k hk=>bf (b k hk)⟩
  ·rw [aZ]at h;subst h
   exact⟨by rw [<- hl];exact hz,λ k h=>bf (hk k h)⟩
 ·rw [List.nodup_append]
  exact⟨P.ok.nodup,by simp,λ a ha b hb q=>zi5 hi (by rw [aZ]at hb;rw [<- hb,<- q];exact ha)⟩
 ·rcases zcs e ht with h | rfl
  ·obtain⟨k,hk⟩:=P.known t h
   exact⟨k,hk.app.up (bA _)⟩
  ·exact⟨N.length,.mk hl hz (λ j v k h1 h2=>(hs j v k h1 h2).app) (zjQ hi)⟩
theorem Put.two {ts:List V}{i:Nat}{N:List Nd}(P:Put ts i N)(T:TL ts)(h:2<=i):2<=N.length:=by
 obtain⟨_,_,h2,ha,hb⟩:=T.ab
 have get:∀ {j:Nat} {op:Str},j < 2->ts[j]? = some (V.tup [.str op])->∃ k,N[k]? = some (op,[]):=λ {j op} hj e=>by
  obtain⟨k,hk⟩:=P.known (V.tup [.str op]) (ap (i:=j) (by rw [List.getElem?_take_of_lt (by exact au ‹_› ‹_›)];exact e))
  generalize hv:V.tup [V.str op]=v at hk
  cases hk with
  | mk hl hz hs hi =>
   cases hv
   have:ks=[]:=List.length_eq_zero_iff.mp hl.symm
   subst this
   exact⟨k,zj4 hi⟩
 obtain⟨k1,e1⟩:=get (by decide) ha
 obtain⟨k2,e2⟩:=get (by decide) hb
 have l1:=(List.getElem?_eq_some_iff.mp e1).1
 have l2:=(List.getElem?_eq_some_iff.mp e2).1
 have:k1≠k2:=λ q=>by rw [q,e2]at e1;exact absurd e1 (by decide)
 lia
noncomputable def IvV51 (μ:Mem)(ks:List Nat)(j:Nat)(ys:List V)(dm:Loc)(dl:Mem):Prop:=∀ (C:Mem->List V->Prop),(∀ (h:Lk dm "self" (.ref (.h 0))),C (μ) ((ks.take j).map VN))->C dl ys
theorem IvV51.mk {μ:Mem}{ks:List Nat}{j:Nat}{ys:List V}{dm:Loc}{dl:Mem}(e:dl=μ)(hy:ys=(ks.take j).map VN)(h:Lk dm "self" (.ref (.h 0))):IvV51 μ ks j ys dm dl:=by
 subst e hy;exact λ C k=>k h
section
variable {X:Ctx}{l:Nat}{μ:Mem}
variable {R:Nat->Option Obj}{env:Env}{ρ:Loc}{w:Nat}{S S':St}
theorem zir {op:Str}{vs:List V}{ks:List Nat}{Q:V->Mem->Prop}{fs:List (Str × V)}(H:μ (.h 0)=some (.inst zaa fs))(hn:("add":Str)∉fs.map (·.1))(hn2:("put":Str)∉fs.map (·.1))(hl:vs.length=ks.length)(hz:vs.length<=2)
  (hs:∀ (j:Nat) (v:V) (k:Nat),vs[j]? = some v->ks[j]? = some k->∀ {Q':V->Mem->Prop},Q' (VN k) μ->Cs X l (.ref zaD) [.ref (.h 0),v] μ Q')
  (h:Cs X l (.ref zaP) [.ref (.h 0),.str op,.tup (ks.map VN)] μ Q):Cs X (l+1) (.ref zaD) [.ref (.h 0),.tup (.str op :: vs)] μ Q:=by
 refine zhw λ R L=>bZ<|aW<|ak .here<|bc H (f:=zaP) (by kernel_rfl) hn ⟨by kernel_rfl,aj<|cC<|ak (.there .here)<|cT (n:=0)<|P2.itemTN (i:=0) (by decide) rfl<|aj<|cB (.type "tuple") (aj<|dg (zac rfl)<|cA<|W.sliceT<|ak (.there .here)<|WP.one<|cT (n:=1) ⟨1,rfl,_,1,rfl,rfl,by exact an _,by simp,sz (by rw [bx];exact aM ‹_› (by decide)),vs,_,_,IT.tup,trivial,trivial,[("self",.ref (.h 0))],IvV51 μ ks,?_,show (["self"]:List Str).Nodup from by decide,λ Y Y Y Y Y=>trivial,(.mk rfl rfl .here),?_,?_⟩)⟩
 ·exact cell1 .here
 ·intro R' C cl i z ys dm dl hz' hI
  apply hI;intro o1
  refine cD dm "part" z λ dH u2=>?_
  have hi:=(List.getElem?_eq_some_iff.mp hz').1
  have hk:ks[i]? = some ks[i]:=al (by exact bP ‹_› ‹_›)
  refine ba (.inl rfl) u2<|cR ⟨λ Y R9=>aW<|ak (u2.lk' o1 (by decide))<|bc H (f:=zaD) (by kernel_rfl) hn2 ⟨by kernel_rfl,aj<|ak u2.lk<|aq<|aU<|hs i z _ hz' hk ⟨sz (by rw [ah,be];exact nT (Nat.min_le_left _ _) (nT (az ‹_›) (nT ‹_› (by decide)))),.mk rfl (?_) (u2.lk' o1 (by decide))⟩⟩,λ e=>dead e⟩
  rw [aK,hk,ax];rfl
 ·intro ys dm dl hI
  apply hI;intro _
  rw [hl,aV]
  exact .inl<|aq<|CV.tupleL .lst (sz (by rw [ah];exact nT (aG (bo ‹_›)) (nT ‹_› (by decide))))<|aq<|aU h
theorem Kn.put {N:List Nd}{d:Nat}{v:V}{k:Nat}(K:Kn N d v k)(B:Bd μ w N)(hn:N.length<=12):∀ {Q:V->Mem->Prop},Q (VN k) μ->Cs X (l+d+5) (.ref zaD) [.ref (.h 0),v] μ Q:=by
 induction K with
 | mk hl hz hs hi ih =>
  intro Q q
  exact zir (l:=l+d_1+5) B.H.obj (zab (by decide)) (zab (by decide)) hl hz (λ j v k h1 h2 {Q'} q'=>ih j v k h1 h2 q') (ziR B hn .tup (by exact nT (aG (bo ‹_›)) ‹_›) hi q)
theorem zi3 {ts:List V}{i:Nat}{N:List Nd}{t:V}{Q:V->Mem->Prop}(P:Put ts i N)(T:TL ts)(e:ts[i]? = some t)(h8:i<=8)(B:Bd μ w N)(q:∀ k N' dl,Put ts (i+1) N'->Bd dl w N'->FrA μ dl->Q (VN k) dl):Cs X (l+14) (.ref zaD) [.ref (.h 0),t] μ Q:=by
 cases T.at e with
 | mk op vs ho hz hs =>
  obtain⟨ks,hl,hk,hks⟩:=zia λ o h=>P.known o (hs o h)
  have hlen:=P.len
  refine zir (l:=l+13) B.H.obj (zab (by decide)) (zab (by decide)) hl hz (λ j v k h1 h2 {Q'} q'=>((hks j v k h1 h2).up h8).put B (by exact nT ‹_› (nT ‹_› (by decide))) q') ?_
  cases hi:N.idxOf? (op,ks)with
  | some n=>exact ziR B (by exact nT ‹_› (nT ‹_› (by decide))) .tup (by exact nT (aG (bo ‹_›)) ‹_›) hi (q n N μ (P.old e hz hl hks hi) B .rfl)
  | none =>
   have P':=P.new (by exact nT ‹_› (by decide)) e hz hl hk hks hi
   exact zjW B P.ok P'.ok ho .tup hk λ dl B' F=>q _ _ dl P' B' F
end
/-! law 01: the heap that is built -/
theorem Bd.keep {μ dl:Mem}{w:Nat}{N:List Nd}(B:Bd μ w N)(k:∀ j,HId j=true->dl j=μ j):Bd dl w N :=
 ⟨B.H.keep k,⟨(k _ rfl).trans B.E.es,λ c h=>by
  obtain⟨l,h1,h2⟩:=B.E.val c h
  exact⟨l,h1,(k _ rfl).trans h2⟩,B.E.no,λ c h=>(k _ rfl).trans (B.E.fresh c h)⟩,λ c h=>(k _ rfl).trans (B.lots c h)⟩
theorem Bd.setT {μ:Mem}{w i:Nat}{N:List Nd}(B:Bd μ w N){o:MO}:Bd (μ.set (.t i) o) w N:=B.keep λ j h=>av λ e=>by subst e;cases h
structure BG (ρ:Loc)(μ:Mem)(b:Nat)(ts:List V):Prop where
 feed:Lk ρ "feed" (.ref (.h 17))
 heap:Lk ρ "heap" (.ref (.h 0))
 terms:Lk ρ "some" (.ref (.t 0))
 B:Feed μ b
 bd:Bd μ 0 []
 tl:TL ts
 sv:μ (.t 0)=some (.list ts)
 fresh:Fresh 1 μ
 h16:μ (.h 16)=none
theorem BG.up {ρ dm:Loc}{μ:Mem}{b:Nat}{ts:List V}(L:BG ρ μ b ts){x:Str}{v:V}(u:Up ρ x v dm)(hx:x∉(["feed","heap","some"]:List Str):=by decide):BG dm μ b ts:=by
 simp only [bD,List.not_mem_nil,or_false,not_or]at hx
 obtain⟨h1,h2,h3⟩:=hx
 exact⟨u.lk' L.feed (cp h1),u.lk' L.heap (cp h2),u.lk' L.terms (cp h3),L.B,L.bd,L.tl,L.sv,L.fresh,L.h16⟩
theorem BG.draw {μ dl:Mem}{ρ:Loc}{b b':Nat}{ts:List V}(L:BG ρ μ b ts)(F:FrD μ dl)(B:Feed dl b'):BG ρ dl b' ts :=
 ⟨L.feed,L.heap,L.terms,B,F.bd L.bd,L.tl,(F _ (by decide)).trans L.sv,F.fresh L.fresh,(F _ (by decide)).trans L.h16⟩
theorem BG.add {μ:Mem}{ρ:Loc}{b:Nat}{ts ts':List V}(L:BG ρ μ b ts)(T:TL ts'):BG ρ (μ.set (.t 0) (.list ts')) b ts' :=
 ⟨L.feed,L.heap,L.terms,L.B.keep (av (by decide)),L.bd.setT,T,aN,Fresh.set L.fresh (by decide),(av (by decide)).trans L.h16⟩
inductive IvV52a (i:Nat)(dm:Loc)(dl:Mem):Prop
 | mk (b:Nat) (ts:List V) (h:BG dm dl b ts) (h2:ts.length=2+i) (h3:b<=1+3 * i)
inductive IvV52b (ts:List V)(i:Nat)(dm:Loc)(dl:Mem):Prop
 | mk (N:List Nd) (P:Put ts i N) (B:Bd dl 0 N) (F:Feed dl 20) (sv:dl (.t 0)=some (.list ts)) (fr:Fresh 1 dl) (h16:dl (.h 16)=none) (hh:Lk dm "heap" (.ref (.h 0)))
section
variable {X:Ctx}{l:Nat}{μ:Mem}
variable {R:Nat->Option Obj}{env:Env}{ρ:Loc}{w:Nat}{S S':St}
theorem zhr {Q:V->Mem->Prop}(B:Feed μ 0)(n0:∀ j,j ≠ .h 17->μ j=none)(q:∀ N dl,Bd dl 0 N->Okn N->2<=N.length->N.length<=7->Feed dl 20->Fresh 1 dl->dl (.h 16)=none->Q (.ref (.h 0)) dl) :
  Cs X (l+20) (.ref zbl) [.ref (.h 17)] μ Q:=by
 refine zfR λ R L=>bJ<|XS.assignSwap (names:=["heap","some"])<|cm<|aj<|de (cS rfl (by kernel_rfl) ⟨rfl,aq<|CV.levels (λ j h=>n0 j (λ e=>by subst e;cases h)) λ dG B1 F1=>?_⟩) (by kernel_rfl) rfl
 have t1:∀ j,dG (.t j)=none:=λ j=>(F1 _ rfl).trans (n0 _ (by first | exact aI rfl | simp))
 refine aj<|cV<|aj<|cm<|aj<|dc<|aq ⟨szr rfl,aj<|cm<|aj<|dc<|aq ⟨szr rfl,aq ⟨szr rfl,.inr ⟨.t 0,t1 0,aq ⟨szr rfl,?_⟩⟩⟩⟩⟩
 refine Up.e2 [(("feed":Str),V.ref (.h 17))] "some" (.ref (.t 0)) "heap" (.ref (.h 0)) λ dH u2 dX u3=>?_
 refine dj rfl<|ATs.bind (.inl rfl) u2<|ATs.bind (.inl rfl) u3<|cX ⟨rfl,?_⟩
 have T0:BG dX (dG.set (.t 0) (.list [.tup [.str "a"],.tup [.str "b"]])) 0 [.tup [.str "a"],.tup [.str "b"]]:=⟨u3.lk' (u2.lk' .here (by decide)) (by decide),u3.lk,u3.lk' u2.lk (by decide),(B.keep (F1 _ rfl)).keep (av (by decide)),B1.setT,.base,aN,Fresh.set (λ j _=>t1 j) (by decide),(av (by decide)).trans ((F1 _ rfl).trans (n0 _ (by decide)))⟩
 change XB _ _ _ _ _ (dG.set (.t 0) (.list [.tup [.str "a"],.tup [.str "b"]])) _ _
 generalize dG.set (.t 0) (.list [.tup [.str "a"],.tup [.str "b"]])=dA at T0 ⊢
 clear u2 u3 t1 F1 B1
 refine bJ<|XS.for_<|cA<|cB (.type "range") (aj<|cF<|cT (n:=2)<|W.draw rfl T0.feed (b:=0) (by decide)<|cT (n:=4) ⟨4,rfl,by decide,T0.B,λ r dD hr B3 F3=>P2.addN<|aq<|dh ?_⟩)
 refine⟨_,_,_,IT.rng (by simp_all) (by lia),trivial,trivial,IvV52a,λ _ _ _ _=>trivial,⟨1,_,T0.draw F3 B3,rfl,an _⟩,?_,?_⟩
 ·rintro R' i z dm dM hz ⟨b,ts,T4,hts,hb⟩
  have hi:i < 5:=by
   rw [zcP]at hz
   split at hz
   ·lia
   ·cases hz
  refine cD dm "lap" z λ d0 u5=>?_
  refine ba (.inl rfl) u5 ?_
  have T5:=T4.up u5
  clear u5
  refine bJ<|XS.assignSwap (names:=["way","one"])<|cm<|aj<|W.draw rfl T5.feed (by exact nve ‹_› ‹_›)<|cT (n:=2) ⟨2,rfl,by decide,T5.B,λ x dZ hx B5 F5=>?_⟩
  have T6:=T5.draw F5 B5
  refine aj<|cC<|ak T6.terms<|W.draw rfl T6.feed (by exact nra ‹_› ‹_›)<|cB (.builtin "len") (aj<|ak T6.terms<|aq<|cW (.ref T6.sv) (sz (by exact nrd ‹_› ‹_›)) ⟨ts.length,rfl,by lia,T6.B,λ y eA hy B6 F6=>?_⟩)
  have T7:=T6.draw F6 B6
  refine bX (.ref T7.sv) (by exact nre ‹_› ‹_› ‹_›) (al hy)<|aq ⟨szr rfl,?_⟩
  have ho:ts[y]∈ts:=List.getElem_mem hy
  generalize ts[y]=o at ho
  refine Up.e2 d0 "one" o "way" (VN x) λ eO u6 e7 u7=>?_
  refine dj rfl<|ATs.bind (.inl rfl) u6<|ATs.bind (.inl rfl) u7<|cX ⟨rfl,?_⟩
  have T8:=(T7.up u6).up u7
  have no:=u7.lk' u6.lk (by decide)
  have nw:=u7.lk
  clear u6 u7
  refine cO<|aW<|ak T8.terms<|cL zaj (.ref T8.sv) ⟨rfl,aj<|W.ite<|cr<|ak nw<|cT (n:=0)<|P2.eqN<|bz ⟨λ hc=>cm<|aj<|dc<|aj<|ak no<|aq ⟨szr rfl,aq<|cQ T8.sv (sz (by exact nrd ‹_› ‹_›))<|cg ⟨λ _=>⟨_,_,T8.add (.u T8.tl ho),by rw [aC,hts];rfl,by exact nrc ‹_›⟩,λ x e=>dead e⟩⟩,λ hc=>cm<|aj<|dc<|aj<|ak no<|aj<|cC<|ak T8.terms<|W.draw rfl T8.feed (by lia)<|cT (n:=2) ⟨2,rfl,by decide,T8.B,λ v μ9 hv B9 F9=>?_⟩⟩⟩
  have T9:=T8.draw F9 B9
  have hv2:v < ts.length:=by exact nrf ‹_› ‹_›
  exact bX (.ref T9.sv) (by exact nre ‹_› ‹_› ‹_›) (al hv2)<|aq ⟨szr rfl,aq<|cQ T9.sv (sz (by exact nrd ‹_› ‹_›))<|cg ⟨λ _=>⟨_,_,T9.add (.v T9.tl ho (List.getElem_mem hv2)),by rw [aC,hts];rfl,by exact nrb ‹_›⟩,λ x e=>dead e⟩⟩
 rintro dm dM ⟨b,ts,T4,hts,hb⟩
 rw [za2]at hts hb
 have h7:ts.length<=7:=by exact nrg ‹_› ‹_›
 refine⟨rfl,bJ<|XS.for_<|cA<|ak T4.terms ⟨_,_,_,cY,.ref T4.sv,trivial,IvV52b ts,λ _ _ _ ⟨_,_,_,_,sv,_,_,_⟩=>.ref sv,⟨[],⟨⟨by decide,by simp,by simp⟩,by simp,by simp⟩,T4.bd,T4.B.le (by exact nrh ‹_› ‹_›),T4.sv,T4.fresh,T4.h16,T4.heap⟩,?_,?_⟩⟩
 ·rintro R' i t d0 dZ ht ⟨N,P,B5,F5,sv,fr,h16,hh⟩
  have hi:=(List.getElem?_eq_some_iff.mp ht).1
  refine cD d0 "term" t λ eO u6=>?_
  refine ba (.inl rfl) u6 ?_
  have hh:=u6.lk' hh (by decide)
  refine cO<|aW<|ak hh<|bc B5.H.obj (f:=zaD) (by kernel_rfl) (zab (by decide)) ⟨by kernel_rfl,aj<|ak u6.lk<|aq<|aU<|zi3 (l:=l+5) P T4.tl ht (by exact nT (az ‹_›) (nT ‹_› (by decide))) B5 λ k N' dl P' B' F'=>cg ⟨λ _=>⟨N',P',B',F5.keep (F' _ rfl),(F' _ rfl).trans sv,λ j h=>(F' _ rfl).trans (fr j h),(F' _ rfl).trans h16,hh⟩,λ x e=>dead e⟩⟩
 ·rintro d0 dZ ⟨N,P,B5,F5,sv,fr,h16,hh⟩
  exact⟨rfl,bZ<|ak hh<|q N dZ B5 P.ok (P.two T4.tl (by exact nT (aS _ _) (aG (bo ‹_›)))) (nT P.len h7) F5 fr h16⟩
end
/-! law 01: the pairs that are drawn -/
noncomputable def FrP (k:Nat)(μ dl:Mem):Prop:=∀ j,j ≠ .h 17->(∀ i,k<=i->j ≠ .t i)->dl j=μ j
theorem FrP.trans {k:Nat}{a b c:Mem}(x:FrP k a b)(y:FrP k b c):FrP k a c:=λ j h h'=>(y j h h').trans (x j h h')
theorem FrD.p {k:Nat}{a b:Mem}(x:FrD a b):FrP k a b:=λ j h _=>x j h
theorem FrP.set {k i:Nat}{a b:Mem}(x:FrP k a b)(hi:k<=i){o:MO}:FrP k a (b.set (.t i) o):=λ j h h'=>(av (h' i hi)).trans (x j h h')
theorem FrP.hs {k:Nat}{μ dl:Mem}(F:FrP k μ dl){w:Nat}{S:St}(H:HS μ w S):HS dl w S:=H.keep λ j h=>F j (λ e=>by subst e;cases h) λ i _ e=>by subst e;cases h
section
variable {X:Ctx}{l:Nat}{μ:Mem}
variable {R:Nat->Option Obj}{env:Env}{ρ:Loc}{w:Nat}{S S':St}
theorem CV.minN {a b:Nat}{Q:V->Mem->Prop}(q:Q (VN (min a b)) μ):CV X l R env ρ μ (.builtin "min") [VN a,VN b] Q:=CV.min2 (by rw [Internal.minN];exact q)
theorem CV.maxN {a b:Nat}{Q:V->Mem->Prop}(q:Q (VN (max a b)) μ):CV X l R env ρ μ (.builtin "max") [VN a,VN b] Q:=CV.max2 (by rw [Internal.maxN];exact q)
theorem CV.listN {n:Nat}{Q:V->Mem->Prop}(h:n<=1000000)(q:Q (.lst ((List.range n).map VN)) μ):CV X l R env ρ μ (.type "list") [.rng 0 ((n:Nat):Int)] Q:=CV.listR (by decide) (by exact nqO ‹_›) (.inl (by rw [rngN];exact q))
theorem IT.rngN {n:Nat}(h:n<=1000000):IT X l R env ρ μ (.rng 0 ((n:Nat):Int)) ((List.range n).map VN) (λ Y=>True) (λ Y=>True):=by
 rw [<- Internal.rngN];exact IT.rng (by decide) (by exact nqO ‹_›)
theorem zjP {n i:Nat}{z:V}(h:((List.range n).map VN)[i]? = some z):i < n/\z=VN i:=by
 apply mapE h;intro j hj
 have hi:i < n:=by
  have:=(List.getElem?_eq_some_iff.mp hj).1
  rwa [aL]at this
 rw [bC hi]at hj
 exact⟨hi,by rw [Option.some.inj hj]⟩
theorem W.size {p1 p2 p3:Pos}{Q:V->Mem->Prop}(hh:Lk ρ "heap" (.ref (.h 0)))(H:HS μ w S)(hz:S.nodes.length<=30)(q:Q (VN S.nodes.length) μ){pl:Sem Bool}(he:(eval (((Expr.Name "heap" p1).Attribute "size" p2).Call [] [] p3) env=do
     let ov <- eval (.Name "heap" p1) env
     standAt p2.atName
     let x <- PySem.holding [ov] (getMethod ov "size" pl)
     match x with
      | (f,first)=>PySem.callWith p3 f first (backTo p3 (starEach [] env)) (backToKw p3 (keywordEach [] env))):=by rfl):W X (l+2) R env ρ μ (.Call (.Attribute (.Name "heap" p1) "size" p2) [] [] p3) Q :=
 aW (ak hh<|bc H.obj (f:=zaQ) (by kernel_rfl) (zab (by decide)) ⟨by kernel_rfl,aq<|aU<|zcS H hz q⟩) rfl he
inductive IvV53 (μ:Mem)(w b k m:Nat)(S:St)(i:Nat)(dm:Loc)(dl:Mem):Prop
 | mk (ps:List (Nat × Nat)) (h1:Lk dm "feed" (.ref (.h 17))) (h2:Lk dm "heap" (.ref (.h 0))) (h3:Lk dm "found" (.ref (.t k))) (h4:Feed dl (b+2 * i)) (h5:FrP k μ dl) (h6:dl (.t k)=some (.list (ps.map pairV))) (h7:ps.length=i) (h8:∀ p∈ps,p.1 < m/\p.2 < m) (h9:Fresh (k+1) dl) (h10:HS dl w S)
theorem zb2 {b m k n:Nat}{Q:V->Mem->Prop}(H:HS μ w S)(hS:S.nodes.length=m)(B:Feed μ b)(hb:b<=900)(hm:1<=m)(hm2:m<=30)(hn:n<=10)(f:Fresh k μ)
  (q:∀ (ps:List (Nat × Nat)) dl,ps.length=n->(∀ p∈ps,p.1 < m/\p.2 < m)->Feed dl (b+2 * n)->FrP k μ dl->Fresh (k+1) dl->dl (.t k)=some (.list (ps.map pairV))->Q (.ref (.t k)) dl):Cs X (l+10) (.ref zar) [.ref (.h 17),.ref (.h 0),VN n] μ Q:=by
 refine zfv λ R L=>db (.inl rfl)<|cV<|aq ⟨szr rfl,.inr ⟨.t k,f k (an _),?_⟩⟩
 refine cD [(("feed":Str),V.ref (.h 17)),("heap",.ref (.h 0)),("many",VN n)] "found" (.ref (.t k)) λ dE u1=>?_
 refine⟨dE,u1,?_⟩
 have nf:=u1.lk' .here (by decide)
 have nh:=u1.lk' (.there .here) (by decide)
 have nm:=u1.lk' (.there<|.there .here) (by decide)
 have nd:=u1.lk
 clear u1
 have B1:Feed (μ.set (.t k) (.list [])) b:=B.keep (av (by first | exact aI rfl | simp))
 have F1:FrP k μ (μ.set (.t k) (.list [])):=FrP.set (λ _ _ _=>rfl) (an _)
 have f1:Fresh (k+1) (μ.set (.t k) (.list [])):=(f.le (bA _)).set (an _)
 have e1:(μ.set (.t k) (.list [])) (.t k)=some (.list []):=aN
 have H1:=F1.hs H
 generalize μ.set (.t k) (.list [])=dG at B1 F1 f1 e1 H1 ⊢
 refine bJ<|XS.for_<|cA<|cB (.type "range") (aj<|ak nm<|aq<|dh ?_)
 refine⟨_,_,_,IT.rng (by simp_all) (by exact nqO (nT ‹_› (by decide))),trivial,trivial,IvV53 μ w b k m S,λ Y Y Y Y=>trivial,⟨[],nf,nh,nd,B1,F1,e1,rfl,by simp,f1,H1⟩,?_,?_⟩
 ·rintro R' i z dm dM hz ⟨ps,nf,nh,nd,B4,F4,e4,l4,r4,f4,H4⟩
  have hi:i < 10:=by
   rw [zcP]at hz
   split at hz
   ·exact au ‹_› ‹_›
   ·cases hz
  refine cD dm "lap" z λ d0 u5=>?_
  refine ba (.inl rfl) u5 ?_
  have nf:=u5.lk' nf (by decide)
  have nh:=u5.lk' nh (by decide)
  have nd:=u5.lk' nd (by decide)
  clear u5
  refine db (.inl rfl)<|W.draw rfl nf (by exact nrk ‹_› ‹_›)<|W.size nh H4 (by exact nsz ‹_› ‹_›) ⟨_,rfl,by exact nsr ‹_› ‹_›,B4,λ x dZ hx B5 F5=>?_⟩
  refine cD d0 "n" (VN x) λ eO u6=>?_
  refine⟨eO,u6,?_⟩
  have nf:=u6.lk' nf (by decide)
  have nh:=u6.lk' nh (by decide)
  have nd:=u6.lk' nd (by decide)
  have nx:=u6.lk
  clear u6
  have H5:=F5.hs H4
  have e5:=(F5 _ (by first | exact aI rfl | simp)).trans e4
  refine cO<|aW<|ak nd<|cL zaj (.ref e5) ⟨rfl,aj<|cm<|aj<|ak nx<|aj<|W.draw rfl nf (by lia)<|W.size nh H5 (by exact nsz ‹_› ‹_›) ⟨_,rfl,by exact nnI ‹_›,B5,λ y eA hy B6 F6=>?_⟩⟩
  have e6:=(F6 _ (by first | exact aI rfl | simp)).trans e5
  refine aq ⟨szr rfl,aq<|cQ e6 (sz (by rw [ah];lia))<|cg ⟨λ Y=>⟨ps ++ [(x,y)],nf,nh,nd,B6.keep (av (by first | exact aI rfl | simp)),((F4.trans F5.p).trans F6.p).set (an _),?_,by simp;assumption,λ p hp=>?_,(F6.fresh (F5.fresh f4)).set (an _),?_⟩,λ x e=>dead e⟩⟩
  ·rw [aN,ax];rfl
  ·rcases List.mem_append.mp hp with h | h
   ·exact r4 p h
   ·rw [aZ]at h;rw [h,<- hS];exact⟨hx,hy⟩
  ·exact(FrP.set (k:=k) (F6.p) (an _)).hs H5
 ·rintro dm dM ⟨ps,nf,nh,nd,B4,F4,e4,l4,r4,f4,H4⟩
  rw [za2]at B4 l4
  exact⟨rfl,bZ<|ak nd<|q ps dM l4 r4 B4 F4 f4 e4⟩
end
/-! law 01: the law's own closing,plainly -/
noncomputable def stepM (M:List Nat)(p:Nat × Nat):List Nat:=if lb M p.1=lb M p.2 then M else merge1 M (min (lb M p.1) (lb M p.2)) (max (lb M p.1) (lb M p.2))
structure LM (N:List Nd)(P:Nat->Nat->Prop)(M:List Nat):Prop where
 len:M.length=N.length
 le:∀ i,i < N.length->lb M i<=i
 self:∀ i,i < N.length->lb M (lb M i)=lb M i
 snd:∀ i j,i < N.length->j < N.length->lb M i=lb M j->CC N P i j
theorem LM.lt {N:List Nd}{P:Nat->Nat->Prop}{M:List Nat}(L:LM N P M){i:Nat}(h:i < N.length):lb M i < N.length:=aM (L.le i h) h
theorem zb1 {n i:Nat}(h:i < n):lb (List.range n) i=i:=by
 unfold lb;rw [aA,bC h];rfl
theorem LM.init (N:List Nd)(P:Nat->Nat->Prop):LM N P (List.range N.length):=by
 refine⟨aL,λ i h=>by rw [zb1 h];exact an _,λ i h=>by rw [zb1 h,zb1 h],λ i j hi hj e=>?_⟩
 rw [zb1 hi,zb1 hj]at e
 subst e;exact .refl
theorem zi2 {M:List Nat}{a b i:Nat}(h:i < M.length)(e:lb M a≠lb M b):lb (stepM M (a,b)) i=if lb M i=max (lb M a) (lb M b)then min (lb M a) (lb M b)else lb M i:=by
 unfold stepM;rw [aw e];exact zjv h
theorem zhg (x y:Nat):(min x y=x/\max x y=y)∨(min x y=y/\max x y=x):=by
 rcases Nat.le_total x y with h | h
 ·exact .inl ⟨Nat.min_eq_left h,Nat.max_eq_right h⟩
 ·exact .inr ⟨Nat.min_eq_right h,Nat.max_eq_left h⟩
theorem LM.step {N:List Nd}{P:Nat->Nat->Prop}{M:List Nat}(L:LM N P M){a b:Nat}(ha:a < N.length)(hb:b < N.length)(h:CC N P a b) :
  LM N P (stepM M (a,b))/\lb (stepM M (a,b)) a=lb (stepM M (a,b)) b/\∀ i j,i < N.length->j < N.length->lb M i=lb M j->lb (stepM M (a,b)) i=lb (stepM M (a,b)) j:=by
 by_cases e:lb M a=lb M b
 ·have e2:stepM M (a,b)=M:=aB e
  rw [e2];exact⟨L,e,λ _ _ _ _ h=>h⟩
 ·have q:∀ i,i < N.length->lb (stepM M (a,b)) i=if lb M i=max (lb M a) (lb M b)then min (lb M a) (lb M b)else lb M i:=λ i hi=>zi2 (by rw [L.len];exact hi) e
  have hlen:(stepM M (a,b)).length=N.length:=by
   have:stepM M (a,b)=merge1 M (min (lb M a) (lb M b)) (max (lb M a) (lb M b)):=aw e
   rw [this];unfold merge1;rw [ah];exact L.len
  have sa:=L.self a ha
  have sb:=L.self b hb
  have la:=L.lt ha
  have lb':=L.lt hb
  have two:=zhg (lb M a) (lb M b)
  generalize hu:min (lb M a) (lb M b)=u at q two
  generalize hv:max (lb M a) (lb M b)=v at q two
  have huv:u<=v:=by rw [<- hu,<- hv];exact nT (Nat.min_le_left _ _) (Nat.le_max_left _ _)
  have hne:u≠v:=by
   rcases two with ⟨h1,h2⟩ | ⟨h1,h2⟩
   ·rw [h1,h2];exact e
   ·rw [h1,h2];exact λ q=>e q.symm
  have su:lb M u=u:=by rcases two with ⟨h1,h2⟩ | ⟨h1,h2⟩ <;> rw [h1] <;> assumption
  have lu:u < N.length:=by rcases two with ⟨h1,h2⟩ | ⟨h1,h2⟩ <;> rw [h1] <;> assumption
  have cuv:∀ i j,i < N.length->j < N.length->lb M i=v->lb M j=u->CC N P i j:=λ i j hi hj e1 e2=>by
   rcases two with ⟨h1,h2⟩ | ⟨h1,h2⟩
   ·exact(L.snd i b hi hb (e1.trans h2)).trans (h.symm.trans (L.snd a j ha hj (h1.symm.trans e2.symm)))
   ·exact(L.snd i a hi ha (e1.trans h2)).trans (h.trans (L.snd b j hb hj (h1.symm.trans e2.symm)))
  refine⟨⟨hlen,λ i hi=>?_,λ i hi=>?_,λ i j hi hj e1=>?_⟩,?_,λ i j hi hj e1=>by rw [q i hi,q j hj,e1]⟩
  ·rw [q i hi]
   split
   ·rename_i h1;exact nT huv (h1▸L.le i hi)
   ·exact L.le i hi
  ·by_cases h1:lb M i=v
   ·rw [q i hi,aB h1,q u lu,su,aw hne]
   ·rw [q i hi,aw h1,q _ (L.lt hi),L.self i hi,aw h1]
  ·rw [q i hi,q j hj]at e1
   by_cases h1:lb M i=v <;> by_cases h2:lb M j=v
   ·exact L.snd i j hi hj (h1.trans h2.symm)
   ·rw [aB h1,aw h2]at e1;exact cuv i j hi hj h1 e1.symm
   ·rw [aw h1,aB h2]at e1;exact(cuv j i hj hi h2 e1).symm
   ·rw [aw h1,aw h2]at e1;exact L.snd i j hi hj e1
  ·rw [q a ha,q b hb]
   rcases two with ⟨h1,h2⟩ | ⟨h1,h2⟩
   ·rw [h2,aB rfl,aw e,h1]
   ·rw [h2,aB rfl,aw (λ q=>e q.symm),h1]
theorem LM.stepLt {N:List Nd}{P:Nat->Nat->Prop}{M:List Nat}(L:LM N P M){a b:Nat}(ha:a < N.length)(hb:b < N.length)(e:lb M a≠lb M b):cntL N.length (stepM M (a,b))+1=cntL N.length M:=by
 have ma:lb M a∈M:=ziI (by rw [L.len];exact ha)
 have mb:lb M b∈M:=ziI (by rw [L.len];exact hb)
 have q:stepM M (a,b)=merge1 M (min (lb M a) (lb M b)) (max (lb M a) (lb M b)):=aw e
 rw [q]
 rcases zhg (lb M a) (lb M b)with ⟨h1,h2⟩ | ⟨h1,h2⟩
 ·rw [h1,h2];exact zeq ma mb (L.lt hb) e
 ·rw [h1,h2];exact zeq mb ma (L.lt ha) λ q=>e q.symm
structure HM (N:List Nd)(ps:List (Nat × Nat))(M:List Nat):Prop where
 lm:LM N (λ a c=>(a,c)∈ps) M
 told:∀ p∈ps,lb M p.1=lb M p.2
 closed:∀ (i j:Nat) (d e:Nd),N[i]? = some d->N[j]? = some e->d.1=e.1->d.2.map (lb M)=e.2.map (lb M)->lb M i=lb M j
theorem HM.like {N:List Nd}{ps:List (Nat × Nat)}{M:List Nat}(L:HM N ps M)(hp:∀ p∈ps,p.1 < N.length/\p.2 < N.length){i j:Nat}(hi:i < N.length)(hj:j < N.length):lb M i=lb M j↔CC N (λ a c=>(a,c)∈ps) i j :=
 ⟨L.lm.snd i j hi hj,λ c=>CC.like (λ a b h=>⟨(hp _ h).1,(hp _ h).2,L.told _ h⟩) L.closed c⟩
noncomputable def sameRow (N:List Nd)(M:List Nat)(i j:Nat):Prop:=∃ d e,N[i]? = some d/\N[j]? = some e/\d.1=e.1/\d.2.map (lb M)=e.2.map (lb M)
theorem LM.row_cc {N:List Nd}{P:Nat->Nat->Prop}{M:List Nat}(L:LM N P M)(hk:∀ d∈N,∀ k∈d.2,k < N.length){i j:Nat}(h:sameRow N M i j):i < N.length/\j < N.length/\CC N P i j:=by
 obtain⟨d,e,h1,h2,h3,h4⟩:=h
 have hl:d.2.length=e.2.length:=by have:=cw List.length h4;rwa [ah,ah]at this
 refine⟨(List.getElem?_eq_some_iff.mp h1).1,(List.getElem?_eq_some_iff.mp h2).1,.cong h1 h2 h3 hl λ n x y hx hy=>?_⟩
 have e1:(d.2.map (lb M))[n]? = some (lb M x):=by rw [aD,hx];rfl
 have e2:(e.2.map (lb M))[n]? = some (lb M y):=by rw [aD,hy];rfl
 rw [h4,e2]at e1
 exact L.snd x y (hk _ (ap h1) _ (ap hx)) (hk _ (ap h2) _ (ap hy)) (Option.some.inj e1).symm
structure HW (N:List Nd)(ps:List (Nat × Nat))(M:List Nat)(W:List (Nat × Nat))(first:Bool):Prop where
 lm:LM N (λ a c=>(a,c)∈ps) M
 cc:∀ p∈W,p.1 < N.length/\p.2 < N.length/\CC N (λ a c=>(a,c)∈ps) p.1 p.2
 told:∀ p∈ps,lb M p.1=lb M p.2∨p∈W
 closed:∀ i j,i < j->sameRow N M i j->lb M i=lb M j∨(i,j)∈W
 new:first=false->∀ p∈W,lb M p.1≠lb M p.2
theorem HW.init {N:List Nd}{ps:List (Nat × Nat)}(nd:N.Nodup)(hk:∀ d∈N,∀ k∈d.2,k < N.length)(hp:∀ p∈ps,p.1 < N.length/\p.2 < N.length):HW N ps (List.range N.length) ps true:=by
 refine⟨.init N _,λ p h=>⟨(hp p h).1,(hp p h).2,.base h⟩,λ p h=>.inr h,λ i j hij q=>.inl ?_,λ h=>(by cases h)⟩
 obtain⟨d,e,h1,h2,h3,h4⟩:=q
 have id:∀ d∈N,d.2.map (lb (List.range N.length))=d.2:=λ d hd=>by
  have:d.2.map (lb (List.range N.length))=d.2.map id:=List.map_congr_left λ x hx=>zb1 (hk d hd x hx)
  rw [this,List.map_id]
 rw [id d (ap h1),id e (ap h2)]at h4
 have:d=e:=Prod.ext h3 h4
 rw [this,<- h2]at h1
 rw [(List.getElem?_inj (List.getElem?_eq_some_iff.mp (h1.trans h2)).1 nd).mp h1]
theorem HW.done {N:List Nd}{ps:List (Nat × Nat)}{M:List Nat}{b:Bool}(H:HW N ps M [] b):HM N ps M:=by
 have cl:∀ i j,i < j->sameRow N M i j->lb M i=lb M j:=λ i j h s=>(H.closed i j h s).resolve_right (by simp)
 refine⟨H.lm,λ p h=>(H.told p h).resolve_right (by simp),λ i j d e h1 h2 h3 h4=>?_⟩
 rcases Nat.lt_trichotomy i j with q | q | q
 ·exact cl i j q ⟨d,e,h1,h2,h3,h4⟩
 ·rw [q]
 ·exact(cl j i q ⟨e,d,h2,h1,h3.symm,h4.symm⟩).symm
structure HF (N:List Nd)(ps:List (Nat × Nat))(M0:List Nat)(W:List (Nat × Nat))(i:Nat)(M:List Nat):Prop where
 lm:LM N (λ a c=>(a,c)∈ps) M
 done:∀ p∈W.take i,lb M p.1=lb M p.2
 keep:∀ a b,a < N.length->b < N.length->lb M0 a=lb M0 b->lb M a=lb M b
 le:cntL N.length M<=cntL N.length M0
 lt:(∀ p∈W,lb M0 p.1≠lb M0 p.2)->1<=i->1<=W.length->cntL N.length M < cntL N.length M0
 zero:i=0->M=M0
theorem HF.init {N:List Nd}{ps W:List (Nat × Nat)}{M:List Nat}(L:LM N (λ a c=>(a,c)∈ps) M):HF N ps M W 0 M :=
 ⟨L,by simp,λ _ _ _ _ h=>h,an _,λ _ h=>absurd h (by decide),λ _=>rfl⟩
theorem HF.step {N:List Nd}{ps W:List (Nat × Nat)}{M0 M:List Nat}{i:Nat}{p:Nat × Nat}(H:HF N ps M0 W i M)(hW:∀ p∈W,p.1 < N.length/\p.2 < N.length/\CC N (λ a c=>(a,c)∈ps) p.1 p.2)(e:W[i]? = some p):HF N ps M0 W (i+1) (stepM M p):=by
 obtain⟨a,b⟩:=p
 have hpW:=ap e
 obtain⟨h1,h2,h3⟩:=hW _ hpW
 obtain⟨s1,s2,s3⟩:=H.lm.step h1 h2 h3
 have cnt:cntL N.length (stepM M (a,b))<=cntL N.length M/\(lb M a≠lb M b->cntL N.length (stepM M (a,b)) < cntL N.length M):=by
  by_cases q:lb M a=lb M b
  ·have:stepM M (a,b)=M:=aB q
   rw [this];exact⟨an _,λ h=>absurd q h⟩
  ·have h9:cntL N.length (stepM M (a,b))+1=cntL N.length M:=H.lm.stepLt h1 h2 q
   exact⟨by lia,λ _=>by exact nsv ‹_›⟩
 refine⟨s1,λ p hp=>?_,λ x y hx hy h=>s3 x y hx hy (H.keep x y hx hy h),nT cnt.1 H.le,λ hne _ hl=>?_,λ h=>absurd h (Nat.succ_ne_zero _)⟩
 ·rw [aK,e]at hp
  rcases List.mem_append.mp hp with h | h
  ·have hw:=hW p (List.mem_of_mem_take h)
   exact s3 _ _ hw.1 hw.2.1 (H.done p h)
  ·have:p=(a,b):=by simpa using h
   rw [this];exact s2
 ·rcases Nat.eq_zero_or_pos i with q | q
  ·subst q
   by_cases q:lb M a=lb M b
   ·rw [H.zero rfl]at q
    exact absurd q (hne _ hpW)
   ·exact au (cnt.2 q) H.le
  ·exact aM cnt.1 (H.lt hne q hl)
theorem HW.lap {N:List Nd}{ps W W':List (Nat × Nat)}{M0 M:List Nat}{b:Bool}(H:HW N ps M0 W b)(F:HF N ps M0 W W.length M)(hk:∀ d∈N,∀ k∈d.2,k < N.length)(hp:∀ p∈ps,p.1 < N.length/\p.2 < N.length)
  (hW:∀ i j,(i,j)∈W'↔i < j/\sameRow N M i j/\lb M i≠lb M j):HW N ps M W' false:=by
 refine⟨F.lm,λ p h=>F.lm.row_cc hk ((hW p.1 p.2).mp h).2.1,λ p h=>.inl ?_,λ i j h s=>?_,λ _ p h=>((hW p.1 p.2).mp h).2.2⟩
 ·rcases H.told p h with q | q
  ·exact F.keep _ _ (hp p h).1 (hp p h).2 q
  ·exact F.done p (by rw [aV];exact q)
 ·by_cases q:lb M i=lb M j
  ·exact .inl q
  ·exact .inr ((hW i j).mpr ⟨h,s,q⟩)
/-! law 01: the walk of _law_homes -/
theorem eqInts {μ:Mem}{n:Nat}:∀ ns ms:List Nat,∃ b,EqV μ n (ns.map VN) (ms.map VN) false b/\(b && ns.length == ms.length)=decide (ns=ms)
 | [],ms=>⟨true,.nilL,by cases ms <;> simp⟩
 | n :: ns,[]=>⟨true,.nilR,by simp⟩
 | k :: ns,j :: ms=>by
  obtain⟨b,h1,h2⟩:=eqInts (μ:=μ) (n:=n) ns ms
  refine⟨_,EqV.cons (EqV.int (k:Int) j) h1,?_⟩
  have e:((k:Int) == j)=(k == j):=by rw [bW];simp;exact Int.ofNat_inj
  rw [e,bx,bx,Bool.and_assoc,show (ns.length+1 == ms.length+1)=(ns.length == ms.length)from by simp,h2,bW]
  simp
theorem eqNd {μ:Mem}(d e:Nd):EqV μ 1 [ndV d] [ndV e] true (decide (d=e)):=by
 obtain⟨a,ks⟩:=d
 obtain⟨c,ms⟩:=e
 obtain⟨b,h1,h2⟩:=eqInts (μ:=μ) (n:=0) ks ms
 have h:=EqV.tup (EqV.cons (EqV.str a c) h1)
 have e:(((a == c) && b) && (V.str a :: ks.map VN).length == (V.str c :: ms.map VN).length)=decide ((a,ks)=(c,ms)):=by
  rw [bx,bx,ah,ah,Bool.and_assoc,show (ks.length+1 == ms.length+1)=(ks.length == ms.length)from by simp,h2,bW]
  simp
 rw [e]at h
 exact h
noncomputable def tst (N:List Nd)(M:List Nat)(n m:Nat):Bool:=decide (hereL M (N.getD m ("",[]))=hereL M (N.getD n ("",[]))) && decide (lb M m≠lb M n)
noncomputable def wishL (N:List Nd)(M:List Nat):Nat->List (Nat × Nat)
 | 0=>[]
 | n+1=>wishL N M n ++ ((List.range n).filter (tst N M n)).map λ m=>(m,n)
theorem zdK (N:List Nd)(M:List Nat):∀ n,(wishL N M n).length<=n * n
 | 0=>an _
 | n+1=>by
  have h1:=zdK N M n
  have h2:((List.range n).filter (tst N M n)).length<=n:=nT (bF _ _) (by rw [aL];exact an _)
  show (wishL N M n ++ ((List.range n).filter (tst N M n)).map λ m=>(m,n)).length<=_
  rw [aC,ah]
  have:(n+1) * (n+1)=n * n+2 * n+1:=by rw [Nat.add_mul,Nat.mul_add];lia
  exact nvg ‹_› ‹_›
theorem zfB (N:List Nd)(M:List Nat)(i j:Nat):∀ n,(i,j)∈wishL N M n↔i < j/\j < n/\tst N M j i=true
 | 0=>by simp [wishL]
 | n+1=>by
  show (i,j)∈wishL N M n ++ ((List.range n).filter (tst N M n)).map (λ m=>(m,n))↔_
  rw [List.mem_append,zfB N M i j n,List.mem_map]
  constructor
  ·rintro(⟨a,b,c⟩ | ⟨m,hm,e⟩)
   ·exact⟨a,by exact aQ (‹_›),c⟩
   ·cases e
    obtain⟨a,b⟩:=List.mem_filter.mp hm
    exact⟨List.mem_range.mp a,by (subst_vars;exact an _),b⟩
  ·rintro⟨a,b,c⟩
   rcases bN j n with h | h
   ·exact .inl ⟨a,h,c⟩
   ·obtain rfl:j=n:=by exact Nat.eq_of_le_of_lt_succ ‹_› ‹_›
    exact .inr ⟨i,List.mem_filter.mpr ⟨List.mem_range.mpr a,c⟩,rfl⟩
theorem ziP {N:List Nd}{M:List Nat}{i j:Nat}(hi:i < N.length)(hj:j < N.length):tst N M j i=true↔sameRow N M i j/\lb M i≠lb M j:=by
 unfold tst
 have g:∀ k,k < N.length->∃ d,N[k]? = some d/\N.getD k ("",[])=d:=λ k hk=>⟨N[k],al hk,by rw [aA,al hk];rfl⟩
 obtain⟨d,a1,a2⟩:=g i hi
 obtain⟨e,b1,b2⟩:=g j hj
 rw [a2,b2,bl,decide_eq_true_iff,decide_eq_true_iff,zjh]
 constructor
 ·rintro⟨⟨h1,h2⟩,h3⟩;exact⟨⟨d,e,a1,b1,h1,h2⟩,h3⟩
 ·rintro⟨⟨d',e',a1',b1',h1,h2⟩,h3⟩
  rw [a1]at a1';cases a1'
  rw [b1]at b1';cases b1'
  exact⟨⟨h1,h2⟩,h3⟩
theorem ziw (M:List Nat)(a b:Nat):stepM M (a,b)=M.map λ x=>if x=max (lb M a) (lb M b)then min (lb M a) (lb M b)else x:=by
 unfold stepM
 dsimp only
 by_cases e:lb M a=lb M b
 ·rw [aB e,e,Nat.max_self,Nat.min_self]
  have:M.map (λ x=>if x=lb M b then lb M b else x)=M.map id:=List.map_congr_left λ x _=>by
   split
   ·exact(bo ‹_›)
   ·rfl
  rw [this,List.map_id]
 ·rw [aw e];rfl
noncomputable def IvV61a (N:List Nd)(ps:List (Nat × Nat))(μ:Mem)(m:Nat)(dm:Loc)(dl:Mem):Prop:=∀ (C:Mem->Prop),(∀ (M:List Nat) (W:List (Nat × Nat)) (first:Bool) (h:HW N ps M W first) (hw:W.length<=900) (hm:cntL N.length M+(if first then 1 else 0)=m) (h1:Lk dm "heap" (.ref (.h 0))) (h2:Lk dm "home" (.lst (M.map VN))) (h3:Lk dm "wishes" (.lst (W.map pairV))) (h4:Lk dm "count" (VN N.length)),C (μ))->C dl
theorem IvV61a.mk {N:List Nd}{ps:List (Nat × Nat)}{μ:Mem}{m:Nat}{dm:Loc}{dl:Mem}(M:List Nat)(W:List (Nat × Nat))(first:Bool)(h:HW N ps M W first)(hw:W.length<=900)(hm:cntL N.length M+(if first then 1 else 0)=m)(e:dl=μ)(h1:Lk dm "heap" (.ref (.h 0)))(h2:Lk dm "home" (.lst (M.map VN)))(h3:Lk dm "wishes" (.lst (W.map pairV)))(h4:Lk dm "count" (VN N.length)):IvV61a N ps μ m dm dl:=by
 subst e;exact λ C k=>k M W first h hw hm h1 h2 h3 h4
noncomputable def IvV61b (N:List Nd)(ps:List (Nat × Nat))(M0:List Nat)(W:List (Nat × Nat))(μ:Mem)(i:Nat)(dm:Loc)(dl:Mem):Prop:=∀ (C:Mem->Prop),(∀ (M:List Nat) (h:HF N ps M0 W i M) (h1:Lk dm "heap" (.ref (.h 0))) (h2:Lk dm "home" (.lst (M.map VN))) (h3:Lk dm "wishes" (.lst (W.map pairV))) (h4:Lk dm "count" (VN N.length)),C (μ))->C dl
theorem IvV61b.mk {N:List Nd}{ps:List (Nat × Nat)}{M0:List Nat}{W:List (Nat × Nat)}{μ:Mem}{i:Nat}{dm:Loc}{dl:Mem}(M:List Nat)(h:HF N ps M0 W i M)(e:dl=μ)(h1:Lk dm "heap" (.ref (.h 0)))(h2:Lk dm "home" (.lst (M.map VN)))(h3:Lk dm "wishes" (.lst (W.map pairV)))(h4:Lk dm "count" (VN N.length)):IvV61b N ps M0 W μ i dm dl:=by
 subst e;exact λ C k=>k M h h1 h2 h3 h4
noncomputable def IvV61c (M:List Nat)(lo hi:Nat)(μ:Mem)(j:Nat)(ys:List V)(dm:Loc)(dR:Mem):Prop:=∀ (C:Mem->List V->Prop),(∀ (h1:Lk dm "low" (VN lo)) (h2:Lk dm "high" (VN hi)),C (μ) (((M.take j).map λ x=>if x=hi then lo else x).map VN))->C dR ys
theorem IvV61c.mk {M:List Nat}{lo hi:Nat}{μ:Mem}{j:Nat}{ys:List V}{dm:Loc}{dR:Mem}(e:dR=μ)(hy:ys=((M.take j).map λ x=>if x=hi then lo else x).map VN)(h1:Lk dm "low" (VN lo))(h2:Lk dm "high" (VN hi)):IvV61c M lo hi μ j ys dm dR:=by
 subst e hy;exact λ C k=>k h1 h2
noncomputable def IvV61d (N:List Nd)(M:List Nat)(μ:Mem)(i:Nat)(ys:List V)(dm:Loc)(dl:Mem):Prop:=∀ (C:Mem->List V->Prop),(∀ (h1:Lk dm "heap" (.ref (.h 0))) (h2:Lk dm "home" (.lst (M.map VN))),C (μ) ((N.take i).map λ d=>ndV (hereL M d)))->C dl ys
theorem IvV61d.mk {N:List Nd}{M:List Nat}{μ:Mem}{i:Nat}{ys:List V}{dm:Loc}{dl:Mem}(e:dl=μ)(hy:ys=(N.take i).map λ d=>ndV (hereL M d))(h1:Lk dm "heap" (.ref (.h 0)))(h2:Lk dm "home" (.lst (M.map VN))):IvV61d N M μ i ys dm dl:=by
 subst e hy;exact λ C k=>k h1 h2
noncomputable def IvV61e (d:Nd)(M:List Nat)(μ:Mem)(j:Nat)(ys:List V)(dm:Loc)(dR:Mem):Prop:=∀ (C:Mem->List V->Prop),(∀ (h:Lk dm "home" (.lst (M.map VN))),C (μ) ((d.2.take j).map (λ q=>VN (lb M q))))->C dR ys
theorem IvV61e.mk {d:Nd}{M:List Nat}{μ:Mem}{j:Nat}{ys:List V}{dm:Loc}{dR:Mem}(e:dR=μ)(hy:ys=(d.2.take j).map (λ q=>VN (lb M q)))(h:Lk dm "home" (.lst (M.map VN))):IvV61e d M μ j ys dm dR:=by
 subst e hy;exact λ C k=>k h
noncomputable def IvV61f (N:List Nd)(M:List Nat)(μ:Mem)(i:Nat)(ys:List V)(dm:Loc)(dl:Mem):Prop:=∀ (C:Mem->List V->Prop),(∀ (h1:Lk dm "rows" (.lst (N.map λ d=>ndV (hereL M d)))) (h2:Lk dm "home" (.lst (M.map VN))),C (μ) ((wishL N M i).map pairV))->C dl ys
theorem IvV61f.mk {N:List Nd}{M:List Nat}{μ:Mem}{i:Nat}{ys:List V}{dm:Loc}{dl:Mem}(e:dl=μ)(hy:ys=(wishL N M i).map pairV)(h1:Lk dm "rows" (.lst (N.map λ d=>ndV (hereL M d))))(h2:Lk dm "home" (.lst (M.map VN))):IvV61f N M μ i ys dm dl:=by
 subst e hy;exact λ C k=>k h1 h2
noncomputable def IvV61g (N:List Nd)(M:List Nat)(dn:List (Nat × Nat))(n:Nat)(μ:Mem)(j:Nat)(ys:List V)(dm:Loc)(dl:Mem):Prop:=∀ (C:Mem->List V->Prop),(∀ (h1:Lk dm "rows" (.lst (N.map λ d=>ndV (hereL M d)))) (h2:Lk dm "home" (.lst (M.map VN))) (h3:Lk dm "n" (VN n)),C (μ) ((dn ++ ((List.range j).filter (tst N M n)).map λ m=>(m,n)).map pairV))->C dl ys
theorem IvV61g.mk {N:List Nd}{M:List Nat}{dn:List (Nat × Nat)}{n:Nat}{μ:Mem}{j:Nat}{ys:List V}{dm:Loc}{dl:Mem}(e:dl=μ)(hy:ys=(dn ++ ((List.range j).filter (tst N M n)).map λ m=>(m,n)).map pairV)(h1:Lk dm "rows" (.lst (N.map λ d=>ndV (hereL M d))))(h2:Lk dm "home" (.lst (M.map VN)))(h3:Lk dm "n" (VN n)):IvV61g N M dn n μ j ys dm dl:=by
 subst e hy;exact λ C k=>k h1 h2 h3
section
variable {X:Ctx}{l:Nat}{μ:Mem}
variable {R:Nat->Option Obj}{env:Env}{ρ:Loc}{w:Nat}{S S':St}
theorem zcV {k:Nat}{ps:List (Nat × Nat)}{v:V}{Q:V->Mem->Prop}(H:HS μ w S)(O:Okn S.nodes)(hz:ps.length<=900)(hp:∀ p∈ps,p.1 < S.nodes.length/\p.2 < S.nodes.length)(hv:RdL μ v (ps.map pairV))
  (q:∀ M,HM S.nodes ps M->Q (.lst (M.map VN)) μ):Cs X (l+6) (.ref zaF) [.ref (.h 0),v] μ Q:=by
 have n11:=O.small
 have hk:∀ d∈S.nodes,∀ k∈d.2,k < S.nodes.length:=λ d hd=>(O.kids d hd).2
 refine zfK λ R L=>bJ<|cP<|cm<|aj<|cB (.type "list") (aj<|cB (.type "range") (aj<|W.size .here H (by exact nT ‹_› (by decide))<|aq<|dh<|aq<|CV.listN (by exact nT ‹_› (by decide)) ?_))
 refine aj<|cB (.type "list") (aj<|ak (.there .here)<|aq<|CV.listL hv (sz (by rw [ah];exact nT ‹_› (by decide))) (.inl ?_))
 refine aj<|W.size .here H (by exact nT ‹_› (by decide))<|aq ⟨szr rfl,?_⟩
 refine Up.e3 [(("heap":Str),V.ref (.h 0)),("pairs",v)] "home" (.lst ((List.range S.nodes.length).map VN)) "wishes" (.lst (ps.map pairV)) "count" (VN S.nodes.length) λ dE u1 dH u2 dX u3=>?_
 refine da<|dj rfl<|bI<|ba (.inr ⟨rfl,rfl⟩) u1<|bI<|ba (.inl rfl) u2<|bI<|ba (.inl rfl) u3<|cX ⟨rfl,?_⟩
 have m1:=u3.lk' (u2.lk' (u1.lk' .here (by decide)) (by decide)) (by decide)
 have m2:=u3.lk' (u2.lk' u1.lk (by decide)) (by decide)
 have m3:=u3.lk' u2.lk (by decide)
 have m4:=u3.lk
 clear u1 u2 u3
 generalize hN:S.nodes=N at *
 refine bJ (XS.while_ (IvV61a N ps μ) ?_ _ (.mk (List.range N.length) ps true (.init O.nodup hk hp) hz rfl rfl m1 m2 m3 m4))
 clear m1 m2 m3 m4
 intro m dm dl hI
 apply hI;intro M Ws first hw hwl hm h1 h2 h3 h4
 refine cr<|ak h3<|cV<|aq ⟨szr rfl,.inl ?_⟩
 by_cases e0:Ws=[]
 ·subst e0
  exact P2.ne (n:=1) (.list .lst .lst rfl .nilL) (by decide)<|bz ⟨λ h=>absurd h (by decide),λ Y=>⟨rfl,bZ<|ak h2<|q M hw.done⟩⟩
 refine P2.ne (n:=1) (.lens .lst .lst (by rw [ah];exact λ h=>e0 (List.length_eq_zero_iff.mp h))) (by decide)<|bz ⟨λ Y=>?_,λ h=>absurd h (by decide)⟩
 refine bJ<|XS.for_<|cA<|ak h3 ⟨_,_,_,cY,.lst,trivial,IvV61b N ps M Ws _,λ _ _ _ _=>.lst,(.mk M (.init hw.lm) rfl h1 h2 h3 h4),?_,?_⟩
 ·clear h1 h2 h3 h4
  intro R' i z dm eA hz2 hI
  apply hI;intro M' F h1 h2 h3 h4
  apply mapE hz2;intro q9 hp'
  obtain⟨a,b⟩:=q9
  obtain⟨ha,hb,hab⟩:=hw.cc _ (ap hp')
  have hM':=F.lm.len
  have itl:∀ j,j < N.length->(M'.map VN)[j]? = some (VN (lb M' j)):=λ j hj=>by rw [aD];unfold lb;rw [aA,al (by exact bP ‹_› (bo ‹_›))];rfl
  have F':=F.step hw.cc hp'
  rw [ziw]at F'
  refine Up.e5 dm "a" (VN a) "b" (VN b) "low" (VN (min (lb M' a) (lb M' b))) "high" (VN (max (lb M' a) (lb M' b))) "home" (.lst ((M'.map λ x=>if x=max (lb M' a) (lb M' b)then min (lb M' a) (lb M' b)else x).map VN)) λ dE u1 dH u2 dX u3 ea u4 d0 u5=>?_
  refine da<|dj rfl<|bI<|ba (.inl rfl) u1<|bI<|ba (.inl rfl) u2<|cX ?_
  have h2':=u2.lk' (u1.lk' h2 (by decide)) (by decide)
  have na:=u2.lk' u1.lk (by decide)
  have nb:=u2.lk
  refine bJ<|cP<|cm<|aj<|cB (.builtin "min") (aj<|(cC<|ak h2'<|ak na<|bX .lst (by exact nT (az ‹_›) (nT ‹_› (by decide))) (itl a ha)<|aj<|cC<|ak h2'<|ak nb<|bX .lst (by exact nT (az ‹_›) (nT ‹_› (by decide))) (itl b hb)<|aq<|CV.minN ?_))
  refine aj<|cB (.builtin "max") (aj<|(cC<|ak h2'<|ak na<|bX .lst (by exact nT (az ‹_›) (nT ‹_› (by decide))) (itl a ha)<|aj<|cC<|ak h2'<|ak nb<|bX .lst (by exact nT (az ‹_›) (nT ‹_› (by decide))) (itl b hb)<|aq<|CV.maxN ?_))
  refine aq ⟨szr rfl,da<|dj rfl<|bI<|ba (.inr ⟨rfl,rfl⟩) u3<|bI<|ba (.inr ⟨rfl,rfl⟩) u4<|cX ⟨rfl,?_⟩⟩
  have h1:=u4.lk' (u3.lk' (u2.lk' (u1.lk' h1 (by decide)) (by decide)) (by decide)) (by decide)
  have h3:=u4.lk' (u3.lk' (u2.lk' (u1.lk' h3 (by decide)) (by decide)) (by decide)) (by decide)
  have h4:=u4.lk' (u3.lk' (u2.lk' (u1.lk' h4 (by decide)) (by decide)) (by decide)) (by decide)
  have h2:=u4.lk' (u3.lk' h2' (by decide)) (by decide)
  have h7:=u4.lk' u3.lk (by decide)
  have h8:=u4.lk
  clear u1 u2 u3 u4 h2' na nb
  generalize min (lb M' a) (lb M' b)=lo at *
  generalize max (lb M' a) (lb M' b)=hi at *
  refine db (.inr ⟨rfl,rfl⟩)<|dg (zac rfl)<|cA<|ak h2 ⟨M'.map VN,_,_,cY,.lst,trivial,[("low",VN lo),("high",VN hi)],IvV61c M' lo hi _,?_,show (["low","high"]:List Str).Nodup from by decide,λ Y Y Y Y Y=>.lst,(.mk rfl rfl .here (.there .here)),?_,?_⟩
  ·exact cell2 h7 h8
  ·intro R2 C2 cl2 j z ys ec dR hz2 hI
   apply hI;intro o1 o2
   apply mapE hz2;intro x hx
   refine cD ec "here" (VN x) λ eP u9=>?_
   have o1':=u9.lk' o1 (by decide)
   have o2':=u9.lk' o2 (by decide)
   have ht2:(M'.take (j+1)).map (λ x=>if x=hi then lo else x)=(M'.take j).map (λ x=>if x=hi then lo else x) ++ [if x=hi then lo else x]:=by rw [aK,hx,ax];rfl
   have hlen:(((M'.take j).map λ x=>if x=hi then lo else x).map VN).length<=sizeLine:=sz (by rw [ah,ah,be];exact nT (bg _ _) (nT (aG ‹_›) (nT ‹_› (by decide))))
   refine ba (.inl rfl) u9<|cR ⟨λ Y R9=>W.ite<|cr<|ak u9.lk<|ak o2'<|P2.eqN<|bz ⟨λ hc=>?_,λ hc=>?_⟩,λ e=>dead e⟩
   ·exact ak o1' ⟨hlen,.mk rfl (by rw [ht2,aB (cv hc),ax];rfl) o1' o2'⟩
   ·exact ak u9.lk ⟨hlen,.mk rfl (by rw [ht2,aw (cj hc),ax];rfl) o1' o2'⟩
  ·intro ys ec dR hI
   apply hI;intro _ _
   refine bo (zaG (f:=VN) (xs:=M')) ▸ ?_
   exact .inl ⟨d0,u5,cg ⟨λ _=>(.mk _ F' rfl (u5.lk' h1 (by decide)) u5.lk (u5.lk' h3 (by decide)) (u5.lk' h4 (by decide))),λ x e=>dead e⟩⟩
 clear h1 h2 h3 h4
 intro dm eA hI
 apply hI;intro M' F h1 h2 h3 h4
 refine⟨rfl,?_⟩
 have hM':=F.lm.len
 rw [ah]at F
 refine cD dm "rows" (.lst (N.map λ d=>ndV (hereL M' d))) λ dE u1=>?_
 refine db (.inr ⟨rfl,rfl⟩)<|dg (zac rfl)<|cA<|cB (.type "range") (aj<|ak h4<|aq<|dh ⟨_,_,_,IT.rngN (by exact nT ‹_› (by decide)),trivial,trivial,[("heap",.ref (.h 0)),("home",.lst (M'.map VN))],IvV61d N M' _,?_,show (["heap","home"]:List Str).Nodup from by decide,λ Y Y Y Y Y=>trivial,(.mk rfl rfl .here (.there .here)),?_,?_⟩)
 ·exact cell2 h1 h2
 ·intro R2 C2 cl2 i z ys ec dR hz2 hI
  apply hI;intro o1 o2
  obtain⟨hi,rfl⟩:=zjP hz2
  obtain⟨d,hd⟩:∃ d,N[i]? = some d:=⟨_,al hi⟩
  have hkd:=O.kids d (ap hd)
  have hdS:S.nodes[i]? = some d:=by rw [hN];exact hd
  have n30:S.nodes.length<=30:=by rw [hN];exact nT ‹_› (by decide)
  refine cD ec "n" (VN i) λ eP u9=>?_
  have o1:=u9.lk' o1 (by decide)
  have o2:=u9.lk' o2 (by decide)
  have o3:=u9.lk
  refine ba (.inl rfl) u9<|cR ⟨λ Y R9=>?_,λ e=>dead e⟩
  refine cF<|cm<|aj<|aW (hF H o1 zcF zcN trivial<|bc H.B.obj (f:=zbt) (by kernel_rfl) (by decide) ⟨by kernel_rfl,aj<|ak o3<|aq<|aU<|zfl H.B n30 hdS<|aq ⟨szr rfl,?_⟩⟩) rfl
  refine cB (.type "tuple") (aj<|dg (zac rfl)<|cA<|aW (hF H o1 zcF zcN trivial<|bc H.B.obj (f:=zaS) (by kernel_rfl) (by decide) ⟨by kernel_rfl,aj<|ak o3<|aq<|aU<|zcU H.B n30 hdS (by have:=hkd.1;exact nT ‹_› (by decide)) ⟨_,_,_,IT.tup,trivial,trivial,[("home",.lst (M'.map VN))],IvV61e d M' _,?_,show (["home"]:List Str).Nodup from by decide,λ Y Y Y Y Y=>trivial,(.mk rfl rfl .here),?_,?_⟩⟩) rfl)
  ·exact cell1 o2
  ·intro R3 C3 cl3 j z ys ea dM hz3 hI
   apply hI;intro o5
   apply mapE hz3;intro x hx
   have hxl:=hkd.2 x (ap hx)
   refine cD ea "kid" (VN x) λ d0 u5=>?_
   refine ba (.inl rfl) u5<|cR ⟨λ Y R9=>cC<|ak (u5.lk' o5 (by decide))<|ak u5.lk<|bX (z:=VN (lb M' x)) .lst (by exact nT (az ‹_›) (nT ‹_› (by decide))) (by rw [aD];unfold lb;rw [aA,al (by exact bP ‹_› (bo ‹_›))];rfl) ⟨sz (by rw [ah,be];have:=hkd.1;exact nT (bg _ _) (nT ‹_› (by decide))),.mk rfl (?_) (u5.lk' o5 (by decide))⟩,λ e=>dead e⟩
   rw [aK,hx,ax];rfl
  ·intro ys ea dM hI
   apply hI;intro _
   refine bo (zaG (f:=VN) (xs:=d.2)) ▸ ?_
   have ekey:V.tup ([V.str d.1] ++ d.2.map λ q=>VN (lb M' q))=ndV (hereL M' d):=by
    unfold ndV hereL;rw [bv];rfl
   refine .inl<|aq<|CV.tupleL .lst (sz (by rw [ah];have:=hkd.1;exact nT ‹_› (by decide)))<|P2.addT (sz (by simp;have:=hkd.1;lia)) ?_
   rw [ekey]
   refine⟨sz (by rw [ah,be];exact nT (bg _ _) (nT ‹_› (by decide))),.mk rfl (?_) o1 o2⟩
   rw [aK,hd,ax];rfl
 intro ys ec dR hI
 apply hI;intro _ _
 refine bo (show N.take ((List.range N.length).map VN).length=N by rw [ah,aL,aV]) ▸ ?_
 refine .inl ⟨dE,u1,?_⟩
 have h1:=u1.lk' h1 (by decide)
 have h2:=u1.lk' h2 (by decide)
 have h4:=u1.lk' h4 (by decide)
 have h5:=u1.lk
 clear u1 h3
 have hW:∀ i j,(i,j)∈wishL N M' N.length↔i < j/\sameRow N M' i j/\lb M' i≠lb M' j:=λ i j=>by
  rw [zfB]
  constructor
  ·rintro⟨a,b,c⟩
   exact⟨a,(ziP (bU a b) b).mp c⟩
  ·rintro⟨a,b,c⟩
   have hj:j < N.length:=by
    obtain⟨d,e,_,h,_⟩:=b
    exact(List.getElem?_eq_some_iff.mp h).1
   exact⟨a,hj,(ziP (bU a hj) hj).mpr ⟨b,c⟩⟩
 have fin:=hw.lap F hk hp hW
 have hWl:(wishL N M' N.length).length<=121:=nT (zdK N M' N.length) (nT (Nat.mul_le_mul n11 n11) (by decide))
 have hdec:cntL N.length M' < m:=by
  rw [<- hm]
  cases first with
  | true=>have:=F.le;simp;exact br (‹_›)
  | false =>
   have:=F.lt (hw.new rfl) (Nat.succ_le_of_lt (List.length_pos_iff.mpr e0)) (Nat.succ_le_of_lt (List.length_pos_iff.mpr e0))
   simpa using this
 refine cD dE "wishes" (.lst ((wishL N M' N.length).map pairV)) λ dH u2=>?_
 refine bJ<|XS.asgComp2 rfl (zac rfl)<|cA<|cB (.type "range") (aj<|ak h4<|aq<|dh ⟨_,_,_,IT.rngN (by exact nT ‹_› (by decide)),trivial,trivial,[("rows",.lst (N.map λ d=>ndV (hereL M' d))),("home",.lst (M'.map VN))],IvV61f N M' _,?_,show (["rows","home"]:List Str).Nodup from by decide,λ Y Y Y Y Y=>trivial,(.mk rfl rfl .here (.there .here)),?_,?_⟩)
 ·exact cell2 h5 h2
 ·intro R2 C2 cl2 i z ys dX dD hz2 hI
  apply hI;intro o1 o2
  obtain⟨hi,rfl⟩:=zjP hz2
  refine cD dX "n" (VN i) λ eP u9=>?_
  have o1:=u9.lk' o1 (by decide)
  have o2:=u9.lk' o2 (by decide)
  have o3:=u9.lk
  have hdl:(wishL N M' i).length<=121:=nT (zdK N M' i) (nT (Nat.mul_le_mul (by exact nT (bA _) (nT ‹_› ‹_›)) (by exact nT (bA _) (nT ‹_› ‹_›))) (by decide:11 * 11<=121))
  have hnext:wishL N M' (i+1)=wishL N M' i ++ ((List.range i).filter (tst N M' i)).map λ m=>(m,i):=rfl
  generalize wishL N M' i=dn at hdl hnext ⊢
  refine ba (.inl rfl) u9<|cR ⟨λ Y D=>BodyOk.inner λ R3=>cA<|cB (.type "range") (aj<|ak o3<|aq<|dh ⟨_,_,_,IT.rngN (by exact nT (az ‹_›) (nT ‹_› (by decide))),trivial,trivial,IvV61g N M' dn i _,λ Y Y Y Y Y=>trivial,(.mk rfl (by simp) o1 o2 o3),?_,?_⟩),λ e=>dead e⟩
  ·clear o1 o2 o3 u9
   intro R4 j z' ys' ea dM hz3 hI
   apply hI;intro o1 o2 o3
   obtain⟨hjn,rfl⟩:=zjP hz3
   have hjl:j < N.length:=bU hjn hi
   refine cD ea "m" (VN j) λ d0 u5=>?_
   have o1:=u5.lk' o1 (by decide)
   have o2:=u5.lk' o2 (by decide)
   have o3:=u5.lk' o3 (by decide)
   have o4:=u5.lk
   have itl:∀ j,j < N.length->(M'.map VN)[j]? = some (VN (lb M' j)):=λ j hj=>by rw [aD];unfold lb;rw [aA,al (by exact bP ‹_› (bo ‹_›))];rfl
   have itr:∀ j,j < N.length->(N.map λ d=>ndV (hereL M' d))[j]? = some (ndV (hereL M' (N.getD j ("",[])))):=λ j hj=>by rw [aD,aA,al hj];rfl
   have htj:List.range (j+1)=List.range j ++ [j]:=List.range_succ
   have hlen:((dn ++ ((List.range j).filter (tst N M' i)).map λ m=>(m,i)).map pairV).length<=sizeLine:=sz (by
    rw [ah,aC,ah]
    have:=bF (tst N M' i) (List.range j)
    rw [aL]at this
    lia)
   have skip:tst N M' i j=false->IvV61g N M' dn i μ (j+1) ((dn ++ ((List.range j).filter (tst N M' i)).map λ m=>(m,i)).map pairV) d0 μ:=λ h=>(.mk rfl (by rw [htj,List.filter_append,List.filter_cons,h];simp) o1 o2 o3)
   refine ba (.inl rfl) u5<|WIfs.one<|WB.and<|cr<|cC<|ak o1<|ak o4<|bX .lst (by exact nT (az ‹_›) (nT ‹_› (by decide))) (itr j hjl)<|cC<|ak o1<|ak o3<|bX .lst (by exact nT (az ‹_›) (nT ‹_› (by decide))) (itr i hi)<|P2.eq (eqNd _ _) (by decide)<|bz ⟨λ hc=>?_,λ hc=>⟨λ e=>dead e,λ Y=>skip (by unfold tst;rw [hc];rfl)⟩⟩
   refine WB.and<|cr<|cC<|ak o2<|ak o4<|bX .lst (by exact nT (az ‹_›) (nT ‹_› (by decide))) (itl j hjl)<|cC<|ak o2<|ak o3<|bX .lst (by exact nT (az ‹_›) (nT ‹_› (by decide))) (itl i hi)<|P2.neN<|bz ⟨λ hc2=>WB.andNil ⟨λ Y R5=>cm<|aj<|ak o4<|aj<|ak o3<|aq ⟨szr rfl,hlen,.mk rfl (?_) o1 o2 o3⟩,λ e=>dead e⟩,λ hc2=>⟨λ e=>dead e,λ Y=>skip (by unfold tst;rw [hc2];simp)⟩⟩
   have hb:tst N M' i j=true:=by unfold tst;rw [hc,hc2];rfl
   rw [htj,List.filter_append,List.filter_cons,hb,aB rfl,ax,ax,ax,ax,List.append_assoc];rfl
  ·intro ys' ea dM hI
   apply hI;intro o1 o2 o3
   exact(.mk rfl (by rw [hnext,ah,aL]) o1 o2)
 ·intro ys dX dD hI
  apply hI;intro _ _
  refine bo (show ((List.range N.length).map VN).length=N.length by rw [ah,aL]) ▸ ?_
  exact .inl ⟨dH,u2,rfl,cg ⟨λ _=>⟨_,hdec,.mk M' _ false fin (by exact nT ‹_› (by decide)) rfl rfl (u2.lk' h1 (by decide)) (u2.lk' h2 (by decide)) u2.lk (u2.lk' h4 (by decide))⟩,λ x e=>dead e⟩⟩
end
/-! law 01: the parts of a photo -/
noncomputable def rootsOf (ab:List Nat):List Nat:=(List.range ab.length).filter λ a=>ab[a]? == some a
theorem zdw {α:Type}{r:α->α->Prop}(asy:∀ a b,r a b->¬ r b a):∀ {l1 l2:List α},l1.Pairwise r->l2.Pairwise r->(∀ x,x∈l1↔x∈l2)->l1=l2
 | [],[],_,_,_=>rfl
 | [],y :: ys,_,_,h=>absurd ((h y).mpr (.head _)) (by simp)
 | x :: xs,[],_,_,h=>absurd ((h x).mp (.head _)) (by simp)
 | x :: xs,y :: ys,h1,h2,h=>by
  obtain⟨a1,a2⟩:=List.pairwise_cons.mp h1
  obtain⟨b1,b2⟩:=List.pairwise_cons.mp h2
  have e:x=y:=by
   rcases List.mem_cons.mp ((h x).mp (.head _))with q | q
   ·exact q
   ·rcases List.mem_cons.mp ((h y).mpr (.head _))with p | p
    ·exact p.symm
    ·exact absurd (b1 x q) (asy _ _ (a1 y p))
  subst e
  have nx:x∉xs:=λ q=>asy _ _ (a1 x q) (a1 x q)
  have ny:x∉ys:=λ q=>asy _ _ (b1 x q) (b1 x q)
  rw [zdw asy a2 b2 λ z=>?_]
  constructor
  ·intro hz
   rcases List.mem_cons.mp ((h z).mp (.tail _ hz))with q | q
   ·rw [q]at hz;exact absurd hz nx
   ·exact q
  ·intro hz
   rcases List.mem_cons.mp ((h z).mpr (.tail _ hz))with q | q
   ·rw [q]at hz;exact absurd hz ny
   ·exact q
noncomputable def ascN (ks:List Nat):List Nat:=(List.range 17).filter (ks.contains ·)
theorem zdJ {ks ns:List Nat}(hk:∀ k∈ks,k < 17)(h1:ns.Pairwise (· < ·))(h2:∀ k,k∈ns↔k∈ks):ns=ascN ks:=by
 refine zdw (r:=(· < ·)) (λ a b h h'=>Nat.lt_asymm h h') h1 (List.pairwise_lt_range.filter _) λ x=>?_
 unfold ascN
 rw [h2,List.mem_filter,List.mem_range,List.contains_iff_mem]
 exact⟨λ h=>⟨hk x h,h⟩,λ h=>h.2⟩
open Classical in
noncomputable def ascT (ks:List (List KA)):List (List KA):=epsilon λ l=>l.Pairwise (λ a b=>ltK a b=true)/\∀ x,x∈l↔x∈ks
theorem zjS {ks ls:List (List KA)}(h1:ls.Pairwise λ a b=>ltK a b=true)(h2:∀ k,k∈ls↔k∈ks):ls=ascT ks:=by
 have sp:=Classical.epsilon_spec (p:=λ l:List (List KA)=>l.Pairwise (λ a b=>ltK a b=true)/\∀ x,x∈l↔x∈ks) ⟨ls,h1,h2⟩
 refine zdw (λ a b h h'=>?_) h1 sp.1 λ x=>(h2 x).trans (sp.2 x).symm
 rw [zfz]at h h'
 rw [zgG h]at h'
 cases h'
theorem zke (d:Nd):Kin true (ndK d):=⟨rfl,λ c hc=>by
 obtain⟨k,_,rfl⟩:=List.mem_map.mp hc
 rfl⟩
noncomputable def lotOf (S:St)(c:Nat):List Nat:=S.lots.getD (root S.ab c) []
noncomputable def keysOf (S:St)(ns:List Nat):List (List KA):=ns.map λ n=>ndK (nd S n)
noncomputable def partV (S:St)(c:Nat):V:=.tup [VN c,.lst ((ascN (lotOf S c)).map VN),.lst ((ascT (keysOf S (ascN (lotOf S c)))).map tupV),.lst ((ascN (uu S (root S.ab c))).map VN)]
noncomputable def soughtV (S:St)(n:Nat):V:=match kget S.known (nd S n)with
 | none=>.int (-1)
 | some m=>VN (root S.ab m)
noncomputable def IvV62a (μ:Mem)(ab:List Nat)(i:Nat)(ys:List V)(dm:Loc)(dl:Mem):Prop:=∀ (C:Mem->List V->Prop),(∀ (h3:Lk dm "self" (.ref (.h 2))),C (μ) ((((List.range ab.length).take i).filter λ a=>ab[a]? == some a).map VN))->C dl ys
theorem IvV62a.mk {μ:Mem}{ab:List Nat}{i:Nat}{ys:List V}{dm:Loc}{dl:Mem}(h1:dl=μ)(h2:ys=(((List.range ab.length).take i).filter λ a=>ab[a]? == some a).map VN)(h3:Lk dm "self" (.ref (.h 2))):IvV62a μ ab i ys dm dl:=by
 subst h1 h2;exact λ C k=>k h3
noncomputable def IvV62b (μ:Mem)(S:St)(ns:List Nat)(i:Nat)(ys:List V)(dm:Loc)(dl:Mem):Prop:=∀ (C:Mem->List V->Prop),(∀ (h3:Lk dm "self" (.ref (.h 0))),C (μ) ((keysOf S (ns.take i)).map tupV))->C dl ys
theorem IvV62b.mk {μ:Mem}{S:St}{ns:List Nat}{i:Nat}{ys:List V}{dm:Loc}{dl:Mem}(h1:dl=μ)(h2:ys=(keysOf S (ns.take i)).map tupV)(h3:Lk dm "self" (.ref (.h 0))):IvV62b μ S ns i ys dm dl:=by
 subst h1 h2;exact λ C k=>k h3
noncomputable def IvV62c (μ:Mem)(S:St)(ks:List Nat)(i:Nat)(ys:List V)(dm:Loc)(dl:Mem):Prop:=∀ (C:Mem->List V->Prop),(∀ (h3:Lk dm "self" (.ref (.h 0))),C (μ) ((ks.take i).map (λ k=>VN (root S.ab k))))->C dl ys
theorem IvV62c.mk {μ:Mem}{S:St}{ks:List Nat}{i:Nat}{ys:List V}{dm:Loc}{dl:Mem}(h1:dl=μ)(h2:ys=(ks.take i).map (λ k=>VN (root S.ab k)))(h3:Lk dm "self" (.ref (.h 0))):IvV62c μ S ks i ys dm dl:=by
 subst h1 h2;exact λ C k=>k h3
theorem zgZ {n i:Nat}{z:V}(h:(rngV 0 ((n:Nat):Int))[i]? = some z):i < n/\z=VN i:=by
 rw [rngN,aD]at h
 obtain⟨j,hj,rfl⟩:=Option.map_eq_some_iff.mp h
 have hi:i < n:=by
  have:=(List.getElem?_eq_some_iff.mp hj).1
  rwa [aL]at this
 rw [bC hi]at hj
 exact⟨hi,by rw [Option.some.inj hj]⟩
section
variable {P:Nat->Nat->Prop}{S:St}
theorem CI.lot (C:CI P S){c:Nat}(h:c < S.nodes.length):∃ x,S.lots[root S.ab c]? = some x/\lotOf S c=x/\x.length<=10/\x.Nodup/\∀ k∈x,k < S.nodes.length:=by
 have hr:=zck C.T.le c (by rw [C.T.ab];exact h)
 rw [C.T.ab,<- C.T.lots]at hr
 have e:S.lots[root S.ab c]? = some S.lots[root S.ab c]:=al hr
 obtain⟨a1,a2⟩:=C.T.ll _ _ e
 exact⟨_,e,by unfold lotOf;rw [aA,e];rfl,C.T.llen e,a1,λ k hk=>(a2 k hk).1⟩
theorem CI.asc (C:CI P S){c:Nat}(h:c < S.nodes.length):(ascN (lotOf S c)).length<=17/\∀ k∈ascN (lotOf S c),k < S.nodes.length:=by
 obtain⟨x,_,e,_,_,hk⟩:=C.lot h
 unfold ascN
 refine⟨nT (bF _ _) (by rw [aL];decide),λ k hm=>?_⟩
 have:=(List.mem_filter.mp hm).2
 rw [List.contains_iff_mem,e]at this
 exact hk k this
end
section
variable {X:Ctx}{l:Nat}{μ:Mem}
variable {R:Nat->Option Obj}{env:Env}{ρ:Loc}{w:Nat}{S S':St}{P:Nat->Nat->Prop}
theorem P1.negI {a:Int}{Q:V->Mem->Prop}(q:Q (.int (-a)) μ):P1 X l R env ρ μ (unaryOp .USub) (.int a) Q:=by
 rintro g v ⟨t,rfl⟩ A s ao r;exact PyProof.Rows.neg_int ⟨g,μ,.rfl,zag r _,.int _,⟨_,rfl⟩,q⟩
theorem zeD {ab:List Nat}{lots:List (List Nat)}{mg:List (Nat × Nat)}{Q:V->Mem->Prop}(U:UH μ ab lots mg)(hz:ab.length<=100)(q:Q (.lst ((rootsOf ab).map VN)) μ):Cs X (l+1) (.ref zaz) [.ref (.h 2)] μ Q:=by
 refine zdt λ R L=>bZ<|dg (zac rfl)<|cA<|cB (.type "range") (aj<|cB (.builtin "len") (aj<|uA U .here<|aq<|cW (.ref U.hab) (sz (by rw [ah];exact nT ‹_› (by decide)))<|aq<|dh ?_))
 rw [ah]
 refine⟨_,_,_,IT.rng (by simp_all) (by exact⟨Int.le_trans (by decide) (Int.natCast_nonneg _),Int.ofNat_le.mpr (nT ‹_› (by decide))⟩),trivial,trivial,[("self",.ref (.h 2))],IvV62a μ ab,?_,by simp,λ Y Y Y Y Y=>trivial,(.mk rfl rfl .here),?_,?_⟩
 ·exact cell1 .here
 ·intro R' C cl i z ys dm dl hz' hI
  apply hI;intro o
  obtain⟨hi,rfl⟩:=zgZ hz'
  have ht:(List.range ab.length).take (i+1)=(List.range ab.length).take i ++ [i]:=by rw [aK,bC hi];rfl
  have hg:ab[i]? = some ab[i]:=al hi
  refine cD dm "a" (VN i) λ dH u2=>?_
  have o:=u2.lk' o (by decide)
  have hlen:((((List.range ab.length).take i).filter λ a=>ab[a]? == some a).map VN).length<=sizeLine:=sz (by
   rw [ah]
   refine nT (bF _ _) ?_
   rw [be];exact nT (Nat.min_le_left _ _) (nT (az ‹_›) (nT ‹_› (by decide))))
  refine ba (.inl rfl) u2<|WIfs.one<|cr<|cC<|uA U o<|ak u2.lk<|bX (i:=i) (z:=VN ab[i]) (.ref U.hab) (by exact nT (az ‹_›) (nT ‹_› (by decide))) (by rw [aD,hg];rfl)<|ak u2.lk<|P2.eqN (b:=i)<|bz ⟨λ hc Y=>ak u2.lk ⟨hlen,.mk rfl (?_) o⟩,λ hc=>(.mk rfl (?_) o)⟩
  ·have:ab[i]=i:=by simpa using hc
   rw [ht,List.filter_append,ax]
   have e:(ab[i]? == some i)=true:=by rw [hg,this];simp
   rw [List.filter_cons,e];rfl
  ·have:¬ ab[i]=i:=by simpa using hc
   rw [ht,List.filter_append]
   have e:(ab[i]? == some i)=false:=by rw [hg];simpa using this
   rw [List.filter_cons,e];simp
 ·intro ys dm dl hI
  apply hI;intro _
  have e:(rngV 0 (ab.length:Nat)).length=(List.range ab.length).length:=by rw [zdP];simp
  rw [e,aV]
  exact .inl q
theorem zcA {Q:V->Mem->Prop}(H:HS μ w S)(Z:Wb S)(q:Q (.lst ((rootsOf S.ab).map VN)) μ):Cs X (l+2) (.ref zaw) [.ref (.h 0)] μ Q :=
 zeb λ R L=>bZ<|aW (hF H .here za9 za7 trivial<|bc H.U.hu (f:=zaz) (by kernel_rfl) (by decide) ⟨by kernel_rfl,aq<|aU<|zeD H.U (by have:=Z.ab;have:=Z.n30;exact nT (aG ‹_›) (nT ‹_› (by decide))) q⟩) rfl
theorem zel {Q:V->Mem->Prop}(H:HS μ w S)(hm:S.mark = .no)(q:Q (VN 0) μ):Cs X (l+1) (.ref zax) [.ref (.h 0)] μ Q:=by
 have M:Mk μ w .no:=hm▸H.marks
 exact zd4 λ R L=>bZ<|cB (.builtin "len") (aj<|hF H .here zfb zfk trivial<|aq<|cW (.ref M.1) (szr rfl) q)
theorem zfx {Q:V->Mem->Prop}(H:HS μ w S)(hw:S.wait=[])(q:Q (.bool true) μ):Cs X (l+1) (.ref zav) [.ref (.h 0)] μ Q:=by
 have hw':μ (.w w)=some (.list []):=by have:=H.wait;rw [hw]at this;exact this
 exact zc3 λ R L=>bZ<|W.cmp<|cB (.builtin "len") (aj<|hF H .here zbX zbO trivial<|aq<|cW (.ref hw') (szr rfl)<|cT (n:=0)<|P2.eqN (a:=0) q)
theorem zdb {c:Nat}{Q:V->Mem->Prop}(H:HS μ w S)(C:CI P S)(hc:c < S.nodes.length)(q:Q (.lst ((ascN (lotOf S c)).map VN)) μ):Cs X (l+3) (.ref zay) [.ref (.h 0),VN c] μ Q:=by
 obtain⟨x,e1,e2,hx,nd,hk⟩:=C.lot hc
 have n10:=C.T.n10
 have hr:root S.ab c < S.lots.length:=(List.getElem?_eq_some_iff.mp e1).1
 have hlz:=C.T.lots
 refine zec λ R L=>bZ<|aW (hF H .here za9 za7 trivial<|bc H.U.hu (f:=za4) (by kernel_rfl) (by decide) ⟨by kernel_rfl,aj<|ak (.there .here)<|aq<|aU<|zdv λ R L=>bZ<|cB (.builtin "sorted") (aj<|cC<|uL H.U .here<|aW (ak .here<|bc H.U.hu (f:=zao) (by kernel_rfl) (by decide) ⟨by kernel_rfl,aj<|ak (.there .here)<|aq<|aU<|zcJ H.U C.T.le (by rw [C.T.ab];exact hc) (by rw [C.T.ab];exact nT ‹_› (by decide))<|bX (.ref H.U.hlots) (by exact nux ‹_› ‹_› ‹_›) (by rw [aD,bC hr];rfl)<|aq ?_⟩) rfl)⟩) rfl
 refine CV.sortedL (ns:=x.map λ (k:Nat)=>(k:Int)) (.ref (by rw [bv];exact H.U.hlot _ _ e1)) (by rw [ah];exact aM ‹_› (by decide)) λ ns' p s=>?_
 obtain⟨ns,rfl⟩:=zgD ns' λ y hy=>by
  obtain⟨k,_,e⟩:=List.mem_map.mp (p.mem_iff.mp hy)
  exact⟨k,e.symm⟩
 have nd2:(ns.map λ (k:Nat)=>(k:Int)).Nodup:=p.nodup_iff.mpr (nd.map _ λ a b h e=>h (Int.ofNat_inj.mp e))
 have nd3:ns.Nodup:=List.Pairwise.of_map (λ (k:Nat)=>(k:Int)) (λ a b h e=>h (by rw [e])) nd2
 rw [List.pairwise_map]at s
 have asc:ns.Pairwise (· < ·):=List.Pairwise.imp₂ (λ a b h1 h2=>aX (Int.ofNat_le.mp h1) h2) s nd3
 have mem:∀ k,k∈ns↔k∈x:=λ k=>by
  have:=p.mem_iff (a:=(k:Int))
  simp only [List.mem_map]at this
  constructor
  ·intro h
   obtain⟨j,hj,e⟩:=this.mp ⟨k,h,rfl⟩
   rw [<- Int.ofNat_inj.mp e];exact hj
  ·intro h
   obtain⟨j,hj,e⟩:=this.mpr ⟨k,h,rfl⟩
   rw [<- Int.ofNat_inj.mp e];exact hj
 rw [e2,<- zdJ (λ k h=>by have:=hk k h;exact au (au ‹_› ‹_›) (by decide)) asc mem]at q
 rw [bv]
 exact .inl q
theorem zhP {c:Nat}{Q:V->Mem->Prop}(H:HS μ w S)(C:CI P S)(hc:c < S.nodes.length)(q:Q (.lst ((ascN (uu S (root S.ab c))).map VN)) μ):Cs X (l+4) (.ref zbk) [.ref (.h 0),VN c] μ Q:=by
 have n10:=C.T.n10
 obtain⟨us,eu⟩:=C.T.dom _ (zaJ C.T.le c (by rw [C.T.ab];exact hc))
 have hu:uu S (root S.ab c)=us:=by unfold uu;rw [eu];rfl
 have h1:=C.T.ul_le eu
 have h2:∀ k∈us,k < 17:=λ k hk=>by have:=C.T.ult _ _ eu k hk;exact au (au ‹_› ‹_›) (by decide)
 obtain⟨es,a1,a2,a3⟩:=H.us
 obtain⟨v,b1,b2⟩:=a2.get eu
 refine zfr λ R L=>bZ<|cB (.builtin "sorted") (aj<|cB (.type "set") (aj<|cC<|hF H .here za5 za6 trivial<|W.find .here H C.calm.b<|ak (.there .here) ⟨c,rfl,rfl,hc,P2.itemD (kd:=kI) a1 b1<|aq ?_⟩))
 refine CV.mono (CV.ssetN h1 h2 b2.rd λ ns m1 m2=>.inl ?_) λ y dl h=>aq h
 rw [hu,<- zdJ h2 m1 m2]at q
 exact q
end
/-! law 01: the photo -/
open Classical in
noncomputable def manyT (ks:List (List KA)):Nat:=epsilon λ n=>∃ l:List (List KA),l.Nodup/\(∀ x,x∈l↔x∈ks)/\n=l.length
theorem zi0 {ks ls:List (List KA)}(nd:ls.Nodup)(h:∀ x,x∈ls↔x∈ks):manyT ks=ls.length:=by
 obtain⟨l,n1,m1,e⟩:=Classical.epsilon_spec (p:=λ n=>∃ l:List (List KA),l.Nodup/\(∀ x,x∈l↔x∈ks)/\n=l.length) ⟨_,ls,nd,h,rfl⟩
 have e:manyT ks=l.length:=e
 rw [e]
 exact bV (n1.length_le_of_subset λ x hx=>(h x).mpr ((m1 x).mp hx)) (nd.length_le_of_subset λ x hx=>(m1 x).mpr ((h x).mp hx))
noncomputable def photoW (S:St):V:=.tup [VN S.nodes.length,.lst ((rootsOf S.ab).map (partV S)),.lst ((List.range S.nodes.length).map (soughtV S)),.lst (S.edges.map edgeV),.lst (S.forest.map VN),.bool true,VN 0,VN (manyT (keysOf S (List.range S.nodes.length)))]
noncomputable def IvV63a (μ:Mem)(S:St)(i:Nat)(ys:List V)(dm:Loc)(dl:Mem):Prop:=∀ (C:Mem->List V->Prop),(∀ (h3:Lk dm "heap" (.ref (.h 0))),C (μ) (((rootsOf S.ab).take i).map (partV S)))->C dl ys
theorem IvV63a.mk {μ:Mem}{S:St}{i:Nat}{ys:List V}{dm:Loc}{dl:Mem}(h1:dl=μ)(h2:ys=((rootsOf S.ab).take i).map (partV S))(h3:Lk dm "heap" (.ref (.h 0))):IvV63a μ S i ys dm dl:=by
 subst h1 h2;exact λ C k=>k h3
noncomputable def IvV63b (μ:Mem)(S:St)(i:Nat)(ys:List V)(dm:Loc)(dl:Mem):Prop:=∀ (C:Mem->List V->Prop),(∀ (h3:Lk dm "heap" (.ref (.h 0))),C (μ) (((List.range S.nodes.length).take i).map (soughtV S)))->C dl ys
theorem IvV63b.mk {μ:Mem}{S:St}{i:Nat}{ys:List V}{dm:Loc}{dl:Mem}(h1:dl=μ)(h2:ys=((List.range S.nodes.length).take i).map (soughtV S))(h3:Lk dm "heap" (.ref (.h 0))):IvV63b μ S i ys dm dl:=by
 subst h1 h2;exact λ C k=>k h3
theorem zfU {S:St}{ns:List Nat}:∀ k∈keysOf S ns,∃ y r,k = .s y :: r:=λ k h=>by
 obtain⟨n,_,rfl⟩:=List.mem_map.mp h
 exact⟨_,_,rfl⟩
section
variable {X:Ctx}{l:Nat}{μ:Mem}
variable {R:Nat->Option Obj}{env:Env}{ρ:Loc}{w:Nat}{S S':St}{P:Nat->Nat->Prop}
theorem zeR {c:Nat}{Q:V->Mem->Prop}(H:HS μ w S)(C:CI P S)(hc:c < S.nodes.length)(q:Q (.lst ((ascT (keysOf S (ascN (lotOf S c)))).map tupV)) μ):Cs X (l+5) (.ref zaK) [.ref (.h 0),VN c] μ Q:=by
 obtain⟨hz,hm⟩:=C.asc hc
 refine zdG λ R L=>bZ<|cB (.builtin "sorted") (aj<|cB (.type "set") (aj<|dg (zac rfl)<|cA<|aW (ak .here<|bc H.obj (f:=zay) (by kernel_rfl) (zab (by decide)) ⟨by kernel_rfl,aj<|ak (.there .here)<|aq<|aU<|zdb (l:=l+1) H C hc ?_⟩) rfl))
 generalize ascN (lotOf S c)=ns at hz hm q ⊢
 refine⟨_,_,_,cY,.lst,trivial,[("self",.ref (.h 0))],IvV62b μ S ns,?_,by simp,λ Y Y Y Y Y=>.lst,(.mk rfl rfl .here),?_,?_⟩
 ·exact cell1 .here
 ·intro R' C' cl i z ys dm dl hz' hI
  apply hI;intro o
  apply mapE hz';intro n hn
  refine cD dm "n" (VN n) λ dH u2=>?_
  refine ba (.inl rfl) u2<|cR ⟨λ Y R9=>W.node (l:=l+1) (u2.lk' o (by decide)) u2.lk H C.T.wf (hm n (ap hn)) ⟨sz (by unfold keysOf;rw [ah,ah,be];exact nT (bg _ _) (nT ‹_› (by decide))),.mk rfl (?_) (u2.lk' o (by decide))⟩,λ e=>dead e⟩
  unfold keysOf
  rw [aK,hn,ax,ax];rfl
 ·intro ys dm dl hI
  apply hI;intro _
  rw [ah,aV]
  have hk:(keysOf S ns).length<=17:=by unfold keysOf;rw [ah];exact hz
  refine .inl<|aq<|CV.setT .lst zfU hk λ ls nd mem=>aq<|CV.sortedSetT (f:=true) nd (λ k h=>?_) (nT (nd.length_le_of_subset λ x hx=>(mem x).mp hx) hk) λ l' p asc=>?_
  ·obtain⟨n,_,rfl⟩:=List.mem_map.mp ((mem k).mp h)
   exact zke _
  ·rw [<- zjS asc λ k=>(p.mem_iff).trans (mem k)]at q
   exact .inl q
theorem ziE {Q:V->Mem->Prop}(H:HS μ w S)(C:CI P S)(q:Q (VN (manyT (keysOf S (List.range S.nodes.length)))) μ):Cs X (l+5) (.ref zau) [.ref (.h 0)] μ Q:=by
 have n10:=C.T.n10
 refine zc4 λ R L=>bZ<|cB (.builtin "len") (aj<|cB (.type "set") (aj<|dg (zac rfl)<|cA<|cB (.type "range") (aj<|aW (ak .here<|bc H.obj (f:=zaQ) (by kernel_rfl) (zab (by decide)) ⟨by kernel_rfl,aq<|aU<|zcS (l:=l+2) H (by exact nT ‹_› (by decide))<|aq<|dh ?_⟩) rfl)))
 refine⟨_,_,_,IT.rng (by simp_all) (by exact nqO (nT ‹_› (by decide))),trivial,trivial,[("self",.ref (.h 0))],IvV62b μ S (List.range S.nodes.length),?_,by simp,λ Y Y Y Y Y=>trivial,(.mk rfl rfl .here),?_,?_⟩
 ·exact cell1 .here
 ·intro R' C' cl i z ys dm dl hz' hI
  apply hI;intro o
  obtain⟨hi,rfl⟩:=zgZ hz'
  refine cD dm "n" (VN i) λ dH u2=>?_
  refine ba (.inl rfl) u2<|cR ⟨λ Y R9=>W.node (l:=l+1) (u2.lk' o (by decide)) u2.lk H C.T.wf hi ⟨sz (by unfold keysOf;rw [ah,ah,be,aL];exact nT (bg _ _) (nT ‹_› (by decide))),.mk rfl (?_) (u2.lk' o (by decide))⟩,λ e=>dead e⟩
  unfold keysOf
  rw [aK,bC hi,ax,ax];rfl
 ·intro ys dm dl hI
  apply hI;intro _
  have e:(rngV 0 (S.nodes.length:Nat)).length=(List.range S.nodes.length).length:=by rw [za2];simp
  rw [e,aV]
  have hk:(keysOf S (List.range S.nodes.length)).length<=17:=by unfold keysOf;rw [ah,aL];exact nT ‹_› (by decide)
  refine .inl<|aq<|CV.setT .lst zfU hk λ ls nd mem=>aq<|CV.lenSet rfl (sz (by rw [ah];have:=nd.length_le_of_subset λ x hx=>(mem x).mp hx;exact nT ‹_› (nT ‹_› (by decide)))) ?_
  rw [zi0 nd mem]at q
  rw [ah]
  exact q
theorem ziY {n:Nat}{d:Nd}{Q:V->Mem->Prop}(H:HS μ w S)(C:CI P S)(hd:S.nodes[n]? = some d)(q:Q (soughtV S n) μ):Cs X (l+4) (.ref zbC) [.ref (.h 0),.str d.1,.tup (d.2.map VN)] μ Q:=by
 have n10:=C.T.n10
 have hkd:=C.T.kids d (ap hd)
 have hl:=(List.getElem?_eq_some_iff.mp hd).1
 have hnd:nd S n=nkey S.ab d:=by unfold nd;rw [aA,hd];rfl
 refine zgc λ R L=>db (.inl rfl)<|aW (hF H .here ze4 zeW trivial<|GM.dict zkg H.known .t ⟨rfl,aj<|cF<|cm<|aj<|ak (.there .here)<|aq ⟨szr rfl,cB (.type "tuple") (aj<|dg (zac rfl)<|cA<|ak (.there<|.there .here) ⟨_,_,_,IT.tup,trivial,trivial,[("self",.ref (.h 0))],IvV62c μ S d.2,?_,by simp,λ Y Y Y Y Y=>trivial,(.mk rfl rfl .here),?_,?_⟩)⟩⟩) rfl
 ·exact cell1 .here
 ·intro R' C' cl i z ys dm dl hz' hI
  apply hI;intro o
  apply mapE hz';intro k hk
  refine cD dm "c" (VN k) λ dH u2=>?_
  refine ba (.inl rfl) u2<|cR ⟨λ Y R9=>W.find (u2.lk' o (by decide)) H C.calm.b<|ak u2.lk ⟨k,rfl,rfl,hkd.2 k (ap hk),sz (by rw [ah,be];have:=hkd.1;exact nT (bg _ _) (nT ‹_› (by decide))),.mk rfl (?_) (u2.lk' o (by decide))⟩,λ e=>dead e⟩
  rw [aK,hk,ax];rfl
 ·intro ys dm dl hI
  apply hI;intro _
  refine bo (zaG (f:=VN) (xs:=d.2)) ▸ ?_
  refine .inl<|aq<|CV.tupleL .lst (sz (by rw [ah];have:=hkd.1;exact nT ‹_› (by decide)))<|P2.addT (sz (by simp;have:=hkd.1;lia)) ?_
  have ekey:V.tup ([V.str d.1] ++ d.2.map λ k=>VN (root S.ab k))=kT.key (ndK (nd S n)):=by
   rw [zhL,hnd];unfold ndV nkey;rw [bv];rfl
  rw [ekey]
  refine aj<|W.unop<|cT (n:=1)<|P1.negI<|aq<|CV.get2 (kd:=kT) H.known ?_
  rw [zdL]
  unfold soughtV at q
  refine cD [(("self":Str),V.ref (.h 0)),("op",.str d.1),("classes",.tup (d.2.map VN))] "n" (((kget S.known (nd S n)).map VN).getD (.int (-1))) λ dH u2=>?_
  refine⟨dH,u2,?_⟩
  have ns:=u2.lk' .here (by decide)
  have nn:=u2.lk
  clear u2
  cases hg:kget S.known (nd S n)with
  | none =>
   rw [hg]at nn q
   exact bZ<|W.ite<|cr<|ak nn<|W.cint<|P2.ltI<|bz ⟨λ hc=>W.unop<|cT (n:=1)<|P1.negI q,λ hc=>absurd hc (by decide)⟩
  | some m =>
   rw [hg]at nn q
   have hm:=(C.T.kn _ (zcB hg)).1
   exact bZ<|W.ite<|cr<|ak nn<|cT (n:=0)<|P2.ltN<|bz ⟨λ hc=>absurd (cv hc) (cG _),λ hc=>W.find ns H C.calm.b<|ak nn ⟨m,rfl,rfl,hm,q⟩⟩
theorem zei {Q:V->Mem->Prop}(H:HS μ w S)(C:CI P S)(q:Q (photoW S) μ):Cs X (l+6) (.ref za0) [.ref (.h 0)] μ Q:=by
 have n10:=C.T.n10
 have hab:=C.T.ab
 have wf:=C.T.wf
 have hrl:∀ c∈rootsOf S.ab,c < S.nodes.length:=λ c hc=>by
  have:=List.mem_range.mp (List.mem_filter.mp hc).1
  exact bP ‹_› ‹_›
 have hrz:(rootsOf S.ab).length<=10:=nT (bF _ _) (by rw [aL];exact nT (aG ‹_›) ‹_›)
 refine Up.e2 [(("heap":Str),V.ref (.h 0))] "some" (.lst ((rootsOf S.ab).map (partV S))) "sought" (.lst ((List.range S.nodes.length).map (soughtV S))) λ dE u1 dH u2=>?_
 refine zfO λ R L=>XB.asgC<|XS.asgComp rfl (zac rfl)<|cA<|aW (ak .here<|bc H.obj (f:=zaw) (by kernel_rfl) (zab (by decide)) ⟨by kernel_rfl,aq<|aU<|zcA (l:=l+3) H C.calm.b ⟨_,_,_,cY,.lst,trivial,[("heap",.ref (.h 0))],IvV63a μ S,?_,by simp,λ Y Y Y Y Y=>.lst,(.mk rfl rfl .here),?_,?_⟩⟩) rfl
 ·exact cell1 .here
 ·intro R' C' cl i z ys dm dl hz' hI
  apply hI;intro o
  apply mapE hz';intro c hc
  have hcl:=hrl c (ap hc)
  refine cD dm "c" (VN c) λ dX u3=>?_
  have o:=u3.lk' o (by decide)
  refine ba (.inl rfl) u3<|cR ⟨λ Y R9=>cm<|aj<|ak u3.lk<|aj<|aW (ak o<|bc H.obj (f:=zay) (by kernel_rfl) (zab (by decide)) ⟨by kernel_rfl,aj<|ak u3.lk<|aq<|aU<|zdb (l:=l+2) H C hcl ?_⟩) rfl,λ e=>dead e⟩
  refine aj<|aW (ak o<|bc H.obj (f:=zaK) (by kernel_rfl) (zab (by decide)) ⟨by kernel_rfl,aj<|ak u3.lk<|aq<|aU<|zeR (l:=l) H C hcl ?_⟩) rfl
  refine aj<|aW (ak o<|bc H.obj (f:=zbk) (by kernel_rfl) (zab (by decide)) ⟨by kernel_rfl,aj<|ak u3.lk<|aq<|aU<|zhP (l:=l+1) H C hcl ?_⟩) rfl
  refine aq ⟨szr rfl,sz (by rw [ah,be];exact nT (bg _ _) (nT ‹_› (by decide))),.mk rfl (?_) o⟩
  rw [aK,hc,ax];rfl
 ·intro ys dm dl hI
  apply hI;intro _
  rw [ah,aV]
  refine .inl ⟨dE,u1,rfl,?_⟩
  have nh:=u1.lk' .here (by decide)
  refine XB.asgC<|XS.asgComp rfl (zac rfl)<|cA<|cB (.type "range") (aj<|W.size (l:=l+3) nh H (by exact nT ‹_› (by decide))<|aq<|dh ⟨_,_,_,IT.rng (by simp_all) (by exact nqO (nT ‹_› (by decide))),trivial,trivial,[("heap",.ref (.h 0))],IvV63b _ S,?_,by simp,λ Y Y Y Y Y=>trivial,(.mk rfl rfl .here),?_,?_⟩)
  ·exact cell1 nh
  ·intro R' C' cl i z ys dm dl hz' hI
   apply hI;intro o
   obtain⟨hi,rfl⟩:=zgZ hz'
   obtain⟨d,hd⟩:∃ d,S.nodes[i]? = some d:=⟨_,al hi⟩
   have hkd:=C.T.kids d (ap hd)
   refine cD dm "n" (VN i) λ dX u3=>?_
   have o:=u3.lk' o (by decide)
   refine ba (.inl rfl) u3<|cR ⟨λ Y R9=>aW (ak o<|bc H.obj (f:=zbC) (by kernel_rfl) (zab (by decide)) ⟨by kernel_rfl,aj<|aW (hF H o zcF zcN trivial<|bc H.B.obj (f:=zbt) (by kernel_rfl) (by decide) ⟨by kernel_rfl,aj<|ak u3.lk<|aq<|aU<|zfl (l:=l+4) H.B (by exact nT ‹_› (by decide)) hd ?_⟩) rfl⟩) rfl,λ e=>dead e⟩
   refine aj<|aW (hF H o zcF zcN trivial<|bc H.B.obj (f:=zaS) (by kernel_rfl) (by decide) ⟨by kernel_rfl,aj<|ak u3.lk<|aq<|aU<|zcU (l:=l+4) H.B (by exact nT ‹_› (by decide)) hd (by have:=hkd.1;exact nT ‹_› (by decide)) ?_⟩) rfl
   refine aq<|aU<|ziY (l:=l+1) H C hd ⟨sz (by rw [ah,be,aL];exact nT (bg _ _) (nT ‹_› (by decide))),.mk rfl (?_) o⟩
   rw [aK,bC hi,ax];rfl
  ·intro ys dm dl hI
   apply hI;intro _
   have e:(rngV 0 (S.nodes.length:Nat)).length=(List.range S.nodes.length).length:=by rw [za2];simp
   rw [e,aV]
   refine .inl ⟨dH,u2,rfl,?_⟩
   have nh:=u2.lk' nh (by decide)
   have e1:=wf.edges
   have e2:=wf.forest
   refine bZ<|cm<|aj<|W.size (l:=l+3) nh H (by exact nT ‹_› (by decide))<|aj<|ak (u2.lk' u1.lk (by decide))<|aj<|ak u2.lk<|aj<|cB (.type "list") (aj<|hF H nh zfi ze5 trivial<|aq<|CV.listL (.ref H.edges) (sz (by rw [ah];exact nT ‹_› (by decide))) (.inl ?_))
   refine aj<|cB (.type "list") (aj<|hF H nh zff zeN trivial<|aq<|CV.listL (.ref H.forest) (sz (by rw [ah];exact nT ‹_› (by decide))) (.inl ?_))
   refine aj<|aW (ak nh<|bc H.obj (f:=zav) (by kernel_rfl) (zab (by decide)) ⟨by kernel_rfl,aq<|aU<|zfx (l:=l+4) H C.wait ?_⟩) rfl
   refine aj<|aW (ak nh<|bc H.obj (f:=zax) (by kernel_rfl) (zab (by decide)) ⟨by kernel_rfl,aq<|aU<|zel (l:=l+4) H C.mark ?_⟩) rfl
   refine aj<|aW (ak nh<|bc H.obj (f:=zau) (by kernel_rfl) (zab (by decide)) ⟨by kernel_rfl,aq<|aU<|ziE (l:=l) H C ?_⟩) rfl
   exact aq ⟨szr rfl,q⟩
end
/-! law 01: what joined_by tells,plainly -/
structure Tried (S:St)(P:Nat->Nat->Prop)(ps:List (Nat × Nat))(n:Nat)(S' S0:St):Prop where
 run:TRun ps (S.wMk (.on S.changes.length)) S'
 back:Back n S' S0
 wb:Wb S'
 mark:S'.mark = .on S.changes.length
 nodes:S'.nodes=S.nodes
 len:S0.changes.length=S.changes.length
 undone:(S0.wMk .no).wW []=S
 like:∀ a c,a < S.nodes.length->c < S.nodes.length->(root S'.ab a=root S'.ab c↔CC S.nodes (plus P ps) a c)
theorem CI.tried {P:Nat->Nat->Prop}{S:St}(C:CI P S)(ps:List (Nat × Nat))(hz:ps.length<=900)(hr:∀ p∈ps,p.1 < S.nodes.length/\p.2 < S.nodes.length):∃ n S' S0,Tried S P ps n S' S0:=by
 have T1:TI (S.wMk (.on S.changes.length)) (plus P ps) 3000 none (S.wMk (.on S.changes.length)):=(C.T.rebase _).mono λ a c h=>.inl h
 obtain⟨S',r,T',w,kp,all⟩:=T1.trun ps (λ p hp=>⟨(hr p hp).1,(hr p hp).2,.base (.inr hp)⟩) (by lia)
 have kn:S'.nodes=S.nodes:=kp.nodes
 obtain⟨n,bk⟩:=T'.back
 refine⟨n,S',(S.wMk (.on S.changes.length)).wW S'.wait,r,bk S'.wait,T'.wf.b,kp.mark,kn,rfl,?_,λ a c ha hc=>⟨λ h=>?_,λ h=>?_⟩⟩
 ·exact ziH (m:=.no) C.wait C.mark
 ·have:=T'.snd a c (by rw [kn];exact ha) (by rw [kn];exact hc) h
  rw [kn]at this;exact this
 ·refine CC.like (f:=root S'.ab) (N:=S.nodes) (λ x y h=>?_) (λ i j d e hi hj=>T'.closed w i j d e (by rw [kn];exact hi) (by rw [kn];exact hj)) h
  rcases h with h | h
  ·obtain⟨h1,h2,h3⟩:=C.told x y h
   exact⟨h1,h2,kp.like x y h1 h2 h3⟩
  ·exact⟨(hr _ h).1,(hr _ h).2,all _ h⟩
theorem Wb.root_le {S:St}(Z:Wb S){x:Nat}(h:x < S.nodes.length):root S.ab x<=x:=Internal.zeS x
theorem Wb.root_root {S:St}(Z:Wb S){x:Nat}(h:x < S.nodes.length):root S.ab (root S.ab x)=root S.ab x:=by
 have h1:=zaJ Z.le x (by rw [Z.ab];exact h)
 exact zak (by rw [aA,h1];exact bj _)
theorem Wb.root_lt' {S:St}(Z:Wb S){x:Nat}(h:x < S.nodes.length):root S.ab x < S.nodes.length:=aM (Z.root_le h) h
theorem HM.rootE {S:St}{ps:List (Nat × Nat)}{M:List Nat}(L:HM S.nodes ps M)(hp:∀ p∈ps,p.1 < S.nodes.length/\p.2 < S.nodes.length){S':St}(Z:Wb S')(kn:S'.nodes=S.nodes)
  (like:∀ a c,a < S.nodes.length->c < S.nodes.length->(root S'.ab a=root S'.ab c↔CC S.nodes (λ a c=>(a,c)∈ps) a c)):∀ x,x < S.nodes.length->lb M x=root S'.ab x:=λ x hx=>by
 have hx':x < S'.nodes.length:=by rw [kn];exact hx
 have r1:=Z.root_le hx'
 have r2:=Z.root_root hx'
 have r3:=Z.root_lt' hx'
 rw [kn]at r3
 have m1:=L.lm.le x hx
 have m2:=L.lm.self x hx
 have m3:=L.lm.lt hx
 have a1:lb M (root S'.ab x)=lb M x:=(L.like hp r3 hx).mpr ((like _ _ r3 hx).mp r2)
 have a2:root S'.ab (lb M x)=root S'.ab x:=(like _ _ m3 hx).mpr ((L.like hp m3 hx).mp m2)
 have b1:=L.lm.le _ r3
 have b2:=Z.root_le (x:=lb M x) (by rw [kn];exact m3)
 lia
noncomputable def lotL (cl:List Nat)(r:Nat->Nat)(h:Nat):List Nat:=cl.filter λ c=>r c == h
noncomputable def lotK (cl:List Nat)(r:Nat->Nat)(h:Nat):List KA:=(lotL cl r h).map λ (c:Nat)=>.i (c:Int)
noncomputable def lotsK (cl:List Nat)(r:Nat->Nat)(hs:List Nat):List (List KA):=(hs.map (lotK cl r)).filter λ t=>decide (1 < t.length)
theorem zgS (cl:List Nat)(r:Nat->Nat)(h:Nat):tupV (lotK cl r h) = .tup ((lotL cl r h).map VN):=by
 unfold tupV lotK
 rw [bv];rfl
theorem zjd (cl:List Nat)(r:Nat->Nat)(h:Nat):(lotK cl r h).length=(lotL cl r h).length:=by unfold lotK;rw [ah]
structure Lots (cl:List Nat)(r:Nat->Nat):Prop where
 asc:cl.Pairwise (· < ·)
 small:∀ c∈cl,c < 17
 le:∀ c∈cl,r c<=c
 mem:∀ c∈cl,r c∈cl
 self:∀ c∈cl,r (r c)=r c
theorem Lots.head {cl:List Nat}{r:Nat->Nat}(L:Lots cl r){c:Nat}(hc:c∈cl):∃ t,lotL cl r (r c)=r c :: t:=by
 have hm:r c∈lotL cl r (r c):=List.mem_filter.mpr ⟨L.mem c hc,by simpa using L.self c hc⟩
 have ha:(lotL cl r (r c)).Pairwise (· < ·):=L.asc.filter _
 cases hl:lotL cl r (r c)with
 | nil=>rw [hl]at hm;cases hm
 | cons x t =>
  rw [hl]at hm ha
  rcases List.mem_cons.mp hm with e | e
  ·exact⟨t,by rw [<- e]⟩
  ·have h1:=(List.pairwise_cons.mp ha).1 _ e
   have hx:x∈lotL cl r (r c):=by rw [hl];exact .head _
   obtain⟨h2,h3⟩:=List.mem_filter.mp hx
   have h3:r x=r c:=by simpa using h3
   have:=L.le x h2
   lia
theorem Lots.pair {cl:List Nat}{r:Nat->Nat}(L:Lots cl r){hs:List Nat}(h1:hs.Pairwise (· < ·))(h2:∀ h∈hs,∃ c∈cl,h=r c):(lotsK cl r hs).Pairwise λ a b=>ltK a b=true:=by
 refine List.Pairwise.filter _ ?_
 rw [List.pairwise_map]
 refine h1.imp_of_mem λ {a b} ha hb hab=>?_
 obtain⟨c,hc,rfl⟩:=h2 a ha
 obtain⟨d,hd,rfl⟩:=h2 b hb
 obtain⟨t,e1⟩:=L.head hc
 obtain⟨u,e2⟩:=L.head hd
 rw [zfz]
 unfold lotK
 rw [e1,e2,aH,aH]
 unfold ltL
 rw [aw (λ e=>by have:=Int.ofNat_inj.mp (KA.i.inj e);exact bj _ (nT ‹_› (aG (bo ‹_›))))]
 show decide _=true
 exact cx (by exact Int.ofNat_lt.mpr (‹_›))
noncomputable def joinedK (cl:List Nat)(r:Nat->Nat):List (List KA):=lotsK cl r (ascN (cl.map r))
theorem zju (ks:List Nat):(ascN ks).Pairwise (· < ·):=List.pairwise_lt_range.filter _
theorem zhe {ks:List Nat}(hk:∀ k∈ks,k < 17){x:Nat}:x∈ascN ks↔x∈ks:=by
 unfold ascN
 rw [List.mem_filter,List.mem_range,List.contains_iff_mem]
 exact⟨λ h=>h.2,λ h=>⟨hk x h,h⟩⟩
theorem zhY {ks ms:List Nat}(h:∀ x,x∈ks↔x∈ms):ascN ks=ascN ms:=by
 unfold ascN
 refine List.filter_congr λ x _=>?_
 rw [bW,List.contains_iff_mem,List.contains_iff_mem]
 exact h x
theorem Lots.sorted {cl:List Nat}{r:Nat->Nat}(L:Lots cl r){hs:List Nat}(hm:∀ h,h∈hs↔h∈cl.map r){l':List (List KA)}(hp:l'.Perm (lotsK cl r hs))(ha:l'.Pairwise λ a b=>ltK a b=true):l'=joinedK cl r:=by
 have hk:∀ k∈cl.map r,k < 17:=λ k h=>by
  obtain⟨c,hc,rfl⟩:=List.mem_map.mp h
  exact aM (L.le c hc) (L.small c hc)
 refine zdw (λ a b h h'=>?_) ha (L.pair (zju _) λ h hh=>?_) λ x=>?_
 ·rw [zfz]at h h'
  rw [zgG h]at h'
  cases h'
 ·obtain⟨c,hc,e⟩:=List.mem_map.mp ((zhe hk).mp hh)
  exact⟨c,hc,e.symm⟩
 ·rw [hp.mem_iff]
  unfold joinedK lotsK
  rw [List.mem_filter,List.mem_filter,List.mem_map,List.mem_map]
  refine and_congr_left λ _=>exists_congr λ h=>and_congr_left λ _=>?_
  rw [hm,zhe hk]
theorem Lots.nodup {cl:List Nat}{r:Nat->Nat}(L:Lots cl r){hs:List Nat}(nd:hs.Nodup)(h2:∀ h∈hs,∃ c∈cl,h=r c):(lotsK cl r hs).Nodup:=by
 refine List.Pairwise.filter _ ?_
 rw [List.pairwise_map]
 refine List.Pairwise.imp_of_mem (λ {a b} ha hb hab e=>hab ?_) nd
 obtain⟨c,hc,rfl⟩:=h2 a ha
 obtain⟨d,hd,rfl⟩:=h2 b hb
 obtain⟨t,e1⟩:=L.head hc
 obtain⟨u,e2⟩:=L.head hd
 unfold lotK at e
 rw [e1,e2,aH,aH]at e
 have:=(List.cons.inj e).1
 exact Int.ofNat_inj.mp (KA.i.inj this)
theorem ziD {cl:List Nat}{r:Nat->Nat}{hs:List Nat}:∀ k∈lotsK cl r hs,Kin false k:=λ k hk=>by
 obtain⟨h1,h2⟩:=List.mem_filter.mp hk
 obtain⟨h,_,rfl⟩:=List.mem_map.mp h1
 have h2:1 < (lotK cl r h).length:=cv h2
 unfold lotK at h2 ⊢
 cases hl:lotL cl r h with
 | nil=>rw [hl]at h2;cases h2
 | cons x t=>exact⟨rfl,λ c hc=>by
   obtain⟨y,_,rfl⟩:=List.mem_map.mp hc
   rfl⟩
/-! law 01: the walk of joined_by -/
noncomputable def lotsE (L:List (Nat × Nat)):List (Int × V):=L.map λ p=>((p.1:Int),V.ref (.t p.2))
theorem zf2 {h:Nat}:∀ {L:List (Nat × Nat)} {z:V},aget (lotsE L) (h:Int)=some z->∃ j,(h,j)∈L/\z = .ref (.t j)
 | (a,j) :: L,z,e=>by
  unfold lotsE at e
  rw [aH]at e
  rw [zaq]at e
  by_cases q:(a:Int)=h
  ·rw [aB q]at e
   cases e
   exact⟨j,by rw [<- Int.ofNat_inj.mp q];exact .head _,rfl⟩
  ·rw [aw q]at e
   obtain⟨j',a1,a2⟩:=zf2 e
   exact⟨j',.tail _ a1,a2⟩
theorem zhJ {h:Nat}{L:List (Nat × Nat)}(e:aget (lotsE L) (h:Int)=none):h∉L.map (·.1):=λ hm=>by
 refine zhh e ?_
 obtain⟨p,hp,rfl⟩:=List.mem_map.mp hm
 exact List.mem_map.mpr ⟨((p.1:Int),_),List.mem_map.mpr ⟨p,hp,rfl⟩,rfl⟩
theorem zcz {cl:List Nat}{r:Nat->Nat}{i c:Nat}(e:cl[i]? = some c)(h:Nat):lotL (cl.take (i+1)) r h=lotL (cl.take i) r h ++ if r c=h then [c]else []:=by
 unfold lotL
 rw [aK,e,List.filter_append]
 congr 1
 show List.filter _ [c]=_
 rw [List.filter_cons]
 by_cases q:r c=h
 ·rw [aB (by simpa using q),aB q];rfl
 ·rw [aw (by simpa using q),aw q];rfl
structure LotS (cl:List Nat)(r:Nat->Nat)(k i:Nat)(L:List (Nat × Nat))(μ:Mem):Prop where
 e:μ (.t k)=some (.dI (lotsE L))
 nd:(L.map (·.1)).Nodup
 nd2:(L.map (·.2)).Nodup
 ids:∀ p∈L,k+1<=p.2/\p.2 < k+1+i
 lot:∀ p∈L,μ (.t p.2)=some (.list ((lotL (cl.take i) r p.1).map VN))
 mem:∀ h,h∈L.map (·.1)↔h∈(cl.take i).map r
 len:L.length<=i
theorem LotS.keep {cl:List Nat}{r:Nat->Nat}{k i:Nat}{L:List (Nat × Nat)}{μ dl:Mem}(S:LotS cl r k i L μ)(F:FrH μ dl):LotS cl r k i L dl :=
 ⟨(F _ rfl).trans S.e,S.nd,S.nd2,S.ids,λ p hp=>(F _ rfl).trans (S.lot p hp),S.mem,S.len⟩
theorem tne {i j:Nat}(h:i≠j):(Id.t i) ≠ .t j:=λ e=>by cases e;exact h rfl
theorem LotS.old {cl:List Nat}{r:Nat->Nat}{k i c j:Nat}{L:List (Nat × Nat)}{μ:Mem}(S:LotS cl r k i L μ)(hc:cl[i]? = some c)(hj:(r c,j)∈L):LotS cl r k (i+1) L ((μ.set (.t (k+1+i)) (.list [])).set (.t j) (.list ((lotL (cl.take i) r (r c)).map VN ++ [VN c]))):=by
 have hjk:=S.ids _ hj
 have inj2:∀ p∈L,p.2=j->p=(r c,j):=λ p hp e=>by
  obtain⟨n,hn,e1⟩:=bH hp
  obtain⟨m,hm,e2⟩:=bH hj
  have:n=m:=(List.getElem?_inj (l:=L.map (·.2)) (by simpa using hn) S.nd2).mp (by rw [aD,aD,al hn,al hm,e1,e2];exact cw some e)
  subst this
  rw [<- e1,e2]
 have inj1:∀ p∈L,p.1=r c->p=(r c,j):=λ p hp e=>by
  obtain⟨n,hn,e1⟩:=bH hp
  obtain⟨m,hm,e2⟩:=bH hj
  have:n=m:=(List.getElem?_inj (l:=L.map (·.1)) (by simpa using hn) S.nd).mp (by rw [aD,aD,al hn,al hm,e1,e2];exact cw some e)
  subst this
  rw [<- e1,e2]
 refine⟨(av (tne (by exact aF (And.left ‹_›)))).trans ((av (tne (by lia))).trans S.e),S.nd,S.nd2,λ p hp=>by have:=S.ids p hp;exact nrt ‹_›,λ p hp=>?_,λ h=>?_,aQ S.len⟩
 ·rw [zcz hc]
  by_cases e:p.2=j
  ·have:=inj2 p hp e
   subst this
   rw [aN,aB rfl,ax];rfl
  ·rw [aw λ q=>e (by rw [inj1 p hp q.symm]),cM]
   exact(av (tne e)).trans ((av (tne (by have:=S.ids p hp;exact aF (And.right ‹_›)))).trans (S.lot p hp))
 ·rw [S.mem,aK,hc,ax,List.mem_append]
  refine⟨.inl,λ q=>q.elim id λ q=>?_⟩
  have:h=r c:=by simpa using q
  rw [this]
  exact(S.mem _).mp (List.mem_map.mpr ⟨_,hj,rfl⟩)
theorem LotS.new {cl:List Nat}{r:Nat->Nat}{k i c:Nat}{L:List (Nat × Nat)}{μ:Mem}(S:LotS cl r k i L μ)(hc:cl[i]? = some c)(hn:aget (lotsE L) (r c:Int)=none):LotS cl r k (i+1) (L ++ [(r c,k+1+i)]) (((μ.set (.t (k+1+i)) (.list [])).set (.t k) (.dI (aput (lotsE L) (r c:Int) (.ref (.t (k+1+i)))))).set (.t (k+1+i)) (.list ([] ++ [VN c]))):=by
 have hno:=zhJ hn
 have hno2:r c∉(cl.take i).map r:=λ q=>hno ((S.mem _).mpr q)
 refine⟨?_,?_,?_,λ p hp=>?_,λ p hp=>?_,λ h=>?_,?_⟩
 ·rw [av (tne (by lia)),aN,zbF hn]
  unfold lotsE
  rw [ax];rfl
 ·rw [ax,List.nodup_append]
  exact⟨S.nd,by simp,λ a ha b hb e=>by
   have:b=r c:=by simpa using hb
   rw [e,this]at ha
   exact hno ha⟩
 ·rw [ax,List.nodup_append]
  exact⟨S.nd2,by simp,λ a ha b hb e=>by
   have:b=k+1+i:=by simpa using hb
   obtain⟨p,hp,rfl⟩:=List.mem_map.mp ha
   have:=S.ids p hp
   simp_all⟩
 ·rcases List.mem_append.mp hp with h | h
  ·have:=S.ids p h;exact nrt ‹_›
  ·rw [aZ]at h;subst h;dsimp only;simp_all
 ·rw [zcz hc]
  rcases List.mem_append.mp hp with h | h
  ·have h1:r c≠p.1:=λ q=>hno (List.mem_map.mpr ⟨p,h,q.symm⟩)
   have h2:=S.ids p h
   rw [aw h1,cM]
   exact(av (tne (by exact aF (And.right ‹_›)))).trans ((av (tne (by exact bu (And.left ‹_›)))).trans ((av (tne (by exact aF (And.right ‹_›)))).trans (S.lot p h)))
  ·rw [aZ]at h;subst h
   have:lotL (cl.take i) r (r c)=[]:=by
    unfold lotL
    rw [List.filter_eq_nil_iff]
    intro x hx q
    exact hno2 (List.mem_map.mpr ⟨x,hx,by simpa using q⟩)
   dsimp only
   rw [this,aB rfl,aN];rfl
 ·rw [ax,List.mem_append,S.mem,aK,hc,ax,List.mem_append]
  simp
 ·rw [aC];have:=S.len;simp;assumption
inductive IvV65a (S:St)(cl:List Nat)(r:Nat->Nat)(k w:Nat)(μ:Mem)(i:Nat)(dm:Loc)(dl:Mem):Prop
 | mk (L:List (Nat × Nat)) (h1:HS dl w S) (F:FrX k μ dl) (f:Fresh (k+1+i) dl) (l:LotS cl r k i L dl) (n1:Lk dm "self" (.ref (.h 16))) (n2:Lk dm "lots" (.ref (.t k)))
noncomputable def IvV65b (cl:List Nat)(r:Nat->Nat)(L:List (Nat × Nat))(μ:Mem)(i:Nat)(ys:List V)(dm:Loc)(dl:Mem):Prop:=∀ (C:Mem->List V->Prop),(C (μ) ((lotsK cl r ((L.take i).map (·.1))).map tupV))->C dl ys
theorem IvV65b.mk {cl:List Nat}{r:Nat->Nat}{L:List (Nat × Nat)}{μ:Mem}{i:Nat}{ys:List V}{dm:Loc}{dl:Mem}(e:dl=μ)(hy:ys=(lotsK cl r ((L.take i).map (·.1))).map tupV):IvV65b cl r L μ i ys dm dl:=by
 subst e hy;exact λ C k=>k
theorem zb0 {cl:List Nat}{r:Nat->Nat}{hs:List Nat}{h:Nat}:lotsK cl r (hs ++ [h])=lotsK cl r hs ++ if 1 < (lotL cl r h).length then [lotK cl r h]else []:=by
 unfold lotsK
 rw [ax,List.filter_append]
 congr 1
 show List.filter _ [lotK cl r h]=_
 rw [List.filter_cons,zjd]
 by_cases q:1 < (lotL cl r h).length
 ·rw [aB (cx q),aB q];rfl
 ·rw [aw (by simpa using q),aw q];rfl
theorem zfn {cl:List Nat}{r:Nat->Nat}{hs:List Nat}:(lotsK cl r hs).length<=hs.length:=nT (bF _ _) (by rw [ah];exact an _)
theorem CI.lots {P:Nat->Nat->Prop}{S:St}(C:CI P S){ps:List (Nat × Nat)}{n:Nat}{S' S0:St}(tr:Tried S P ps n S' S0):Lots (rootsOf S.ab) (root S'.ab):=by
 have n10:=C.T.n10
 have hab:=C.T.ab
 have kn:=tr.nodes
 have hrl:∀ c∈rootsOf S.ab,c < S.nodes.length/\S.ab[c]? = some c:=λ c hc=>by
  obtain⟨h1,h2⟩:=List.mem_filter.mp hc
  have:=List.mem_range.mp h1
  exact⟨by exact bP ‹_› ‹_›,by simpa using h2⟩
 have rr:∀ c,S.ab[c]? = some c->root S.ab c=c:=λ c h=>zak (by rw [aA,h];exact bj _)
 refine⟨List.pairwise_lt_range.filter _,λ c hc=>by have:=(hrl c hc).1;exact au (au ‹_› ‹_›) (by decide),λ c _=>Internal.zeS c,λ c hc=>?_,λ c hc=>tr.wb.root_root (by rw [kn];exact(hrl c hc).1)⟩
 obtain⟨h1,h2⟩:=hrl c hc
 have h3:=tr.wb.root_lt' (x:=c) (by rw [kn];exact h1)
 rw [kn]at h3
 have h4:=C.calm.b.root_lt' h3
 have a1:CC S.nodes P (root S.ab (root S'.ab c)) (root S'.ab c):=(C.like h4 h3).mp (C.calm.b.root_root h3)
 have a2:root S'.ab (root S.ab (root S'.ab c))=root S'.ab (root S'.ab c):=(tr.like _ _ h4 h3).mpr (a1.mono λ a b h=>.base (.inl h))
 rw [tr.wb.root_root (by rw [kn];exact h1)]at a2
 have b1:=Internal.zeS (ab:=S'.ab) (root S.ab (root S'.ab c))
 have b2:=Internal.zeS (ab:=S.ab) (root S'.ab c)
 have e:root S.ab (root S'.ab c)=root S'.ab c:=by lia
 have h5:=zaJ C.T.le (root S'.ab c) (by rw [hab];exact h3)
 rw [e]at h5
 exact List.mem_filter.mpr ⟨List.mem_range.mpr (by rw [hab];exact h3),by simpa using h5⟩
section
variable {X:Ctx}{l:Nat}{μ:Mem}
variable {R:Nat->Option Obj}{env:Env}{ρ:Loc}{w:Nat}{S S' S0:St}{P:Nat->Nat->Prop}
theorem zgm {k n:Nat}{v:V}{ps:List (Nat × Nat)}{Q:V->Mem->Prop}(H:HS μ w S)(T:TH μ)(C:CI P S)(hk:Fresh k μ)(hv:PV μ k v (ps.map pairV))(hz:ps.length<=900)(hr:∀ p∈ps,p.1 < S.nodes.length/\p.2 < S.nodes.length)(tr:Tried S P ps n S' S0)
  (q:∀ w' k' dl,HS dl w' S->k<=k'->Fresh k' dl->FrX k μ dl->Q (.lst ((joinedK (rootsOf S.ab) (root S'.ab)).map tupV)) dl):Cs X (l+9) (.ref zat) [.ref (.h 16),v] μ Q:=by
 have n10:=C.T.n10
 have LO:=C.lots tr
 have kn:=tr.nodes
 have hcc:=C.calm.changes
 have hrl:∀ c∈rootsOf S.ab,c < S'.nodes.length:=λ c hc=>by
  have:=List.mem_range.mp (List.mem_filter.mp hc).1
  rw [kn,<- C.T.ab];exact this
 have hrz:(rootsOf S.ab).length<=10:=nT (bF _ _) (by rw [aL,C.T.ab];exact n10)
 refine zc7 λ R L=>bJ<|XS.assignSwap (names:=["classes","lots"])<|cm<|aj<|aW (dd .here T .here (by kernel_rfl) trivial<|bc H.obj (f:=zaw) (by kernel_rfl) (zab (by decide)) ⟨by kernel_rfl,aq<|aU<|zcA (l:=l+6) H C.calm.b ?_⟩) rfl
 refine aj<|W.dictNil (kd:=kI) (i:=.t k) (hk k (an _))<|aq ⟨szr rfl,?_⟩
 generalize hcl:rootsOf S.ab=cl at *
 refine Up.e2 [(("self":Str),V.ref (.h 16)),("pairs",v)] "lots" (.ref (.t k)) "classes" (.lst (cl.map VN)) λ dE u1 dH u2=>?_
 refine dj rfl<|ATs.bind (.inl rfl) u1<|ATs.bind (.inl rfl) u2<|cX ⟨rfl,?_⟩
 have ns:=u2.lk' (u1.lk' .here (by decide)) (by decide)
 have np:=u2.lk' (u1.lk' (.there .here) (by decide)) (by decide)
 have nl:=u2.lk' u1.lk (by decide)
 have nc:=u2.lk
 clear u1 u2
 have H1:HS (μ.set (.t k) (.dI [])) w S:=H.setT
 have F1:FrX k μ (μ.set (.t k) (.dI [])):=FrX.rfl.set (an _)
 have f1:Fresh (k+1) (μ.set (.t k) (.dI [])):=(hk.le (bA _)).set (bw _)
 have e1:(μ.set (.t k) (.dI [])) (.t k)=some (.dI []):=aN
 change XB _ _ _ _ _ (μ.set (.t k) (.dI [])) _ _
 generalize μ.set (.t k) (.dI [])=dG at H1 F1 f1 e1 ⊢
 have T1:=T.keepX F1
 have hv1:=hv.keep F1
 refine cO<|aW<|ak ns<|bc T1 (f:=zan) (by kernel_rfl) (by decide) ⟨by kernel_rfl,aj<|ak np<|aq<|aU<|zej (l:=l) H1 T1 C.calm.mark C.calm.wait (by exact nT ‹_› (by decide)) (by exact nT ‹_› (by decide)) hv1.rd (λ dl F=>(hv1.keep F.x).rd) (by exact nT ‹_› (by decide)) hr tr.run λ dA H2 F2=>?_⟩
 have G2:=F1.trans F2.x
 have f2:=f1.h F2
 have e2:=(F2 _ rfl).trans e1
 refine bJ<|XS.for_<|cA<|ak nc ⟨_,_,_,cY,.lst,trivial,IvV65a S' cl (root S'.ab) k w μ,λ _ _ _ _=>.lst,⟨[],H2,G2,f2,⟨e2,.nil,.nil,by simp,by simp,by simp,an _⟩,ns,nl⟩,?_,?_⟩
 ·clear ns np nl nc e2 f2 G2 H2 F2 e1 f1 F1 H1
  rintro R' i z dm dD hz' ⟨L,H3,F3,f3,l3,ns,nl⟩
  apply mapE hz';intro c hc
  have hcl':=hrl c (ap hc)
  have hi:i < cl.length:=(List.getElem?_eq_some_iff.mp hc).1
  refine cD dm "c" (VN c) λ ea u4=>?_
  refine ba (.inl rfl) u4 ?_
  have ns:=u4.lk' ns (by decide)
  have nl:=u4.lk' nl (by decide)
  have nc:=u4.lk
  clear u4
  have T3:=T.keepX F3
  have hll:(lotL (cl.take i) (root S'.ab) (root S'.ab c)).length<=10:=nT (bF _ _) (by rw [be];exact nT (bg _ _) (‹_›))
  refine cO<|aW<|aW<|ak nl<|GM.dict zjF l3.e .i ⟨rfl,aj<|aW (dd ns T3 .here (by kernel_rfl) trivial<|bc H3.obj (f:=zbf) (by kernel_rfl) (zab (by decide)) ⟨by kernel_rfl,aj<|ak nc<|aq<|aU<|zek (l:=l+6) H3 tr.wb hcl' ?_⟩) rfl⟩
  refine aj<|cV<|aq ⟨szr rfl,.inr ⟨.t (k+1+i),f3 _ (an _),aq ?_⟩⟩
  have e4:(dD.set (.t (k+1+i)) (.list [])) (.t k)=some (kI.mo (lotsE L)):=(av (tne (by lia))).trans l3.e
  refine CV.setdefault (kd:=kI) (key:=((root S'.ab c:Nat):Int)) e4 (sz (by unfold lotsE;rw [ah];have:=l3.len;lia)) (λ z hz=>?_) λ hz=>?_
  ·obtain⟨j,hj,rfl⟩:=zf2 hz
   have hjk:=l3.ids _ hj
   have ej:(dD.set (.t (k+1+i)) (.list [])) (.t j)=some (.list ((lotL (cl.take i) (root S'.ab) (root S'.ab c)).map VN)):=(av (tne (by exact aF (And.right ‹_›)))).trans (l3.lot _ hj)
   refine cL zaj (.ref ej) ⟨rfl,aj<|ak nc<|aq<|cQ ej (sz (by rw [ah];exact nT ‹_› (by decide)))<|cg ⟨λ _=>⟨L,H3.setT.setT,(F3.set (by lia)).set (by exact nT (aS _ _) (And.left ‹_›)),?_,l3.old hc hj,ns,nl⟩,λ x e=>dead e⟩⟩
   exact(Fresh.set ((f3.le (by simp_all:k+1+i<=k+1+(i+1))).set (by simp_all)) (by exact aQ (And.right ‹_›)))
  ·have ej:((dD.set (.t (k+1+i)) (.list [])).set (.t k) (kI.mo (aput (lotsE L) ((root S'.ab c:Nat):Int) (.ref (.t (k+1+i)))))) (.t (k+1+i))=some (.list []):=(av (tne (by lia))).trans aN
   refine cL zaj (.ref ej) ⟨rfl,aj<|ak nc<|aq<|cQ ej (szr rfl)<|cg ⟨λ _=>⟨_,H3.setT.setT.setT,((F3.set (by lia)).set (an _)).set (by lia),?_,l3.new hc hz,ns,nl⟩,λ x e=>dead e⟩⟩
   exact(Fresh.set (Fresh.set ((f3.le (by simp_all:k+1+i<=k+1+(i+1))).set (by simp_all)) (by lia)) (by simp_all))
 ·rintro dm dD ⟨L,H3,F3,f3,l3,ns,nl⟩
  rw [ah]at f3 l3
  refine⟨rfl,?_⟩
  have T3:=T.keepX F3
  refine cO<|aW (dd ns T3 .here (by kernel_rfl) trivial<|bc H3.obj (f:=za1) (by kernel_rfl) (zab (by decide)) ⟨by kernel_rfl,aq<|aU<|zg6 (l:=l+5) H3 tr.mark tr.back tr.len (by exact nT ‹_› (by decide)) λ dM H4 F4=>?_⟩) rfl
  rw [tr.undone]at H4
  have l4:=l3.keep F4
  have f4:=f3.h F4
  have G4:=F3.trans F4.x
  have hfree:dM (.t (k+1+cl.length))=none:=f4 _ (an _)
  refine bZ<|cB (.builtin "sorted") (aj<|dg (zac rfl)<|cA<|aW (ak nl<|GM.dict zim l4.e .i ⟨rfl,aq<|CV.values (j:=.t (k+1+cl.length)) l4.e hfree λ nn=>?_⟩) rfl)
  have ne:(k+1+cl.length)≠k:=by lia
  have g1:((dM.set (.t k) (.dF (lotsE L) nn)).set (.t (k+1+cl.length)) (.vw (.t k))) (.t (k+1+cl.length))=some (.vw (.t k)):=aN
  have g2:((dM.set (.t k) (.dF (lotsE L) nn)).set (.t (k+1+cl.length)) (.vw (.t k))) (.t k)=some (.dF (lotsE L) nn):=(av (tne (cp ne))).trans aN
  have g3:∀ p∈L,((dM.set (.t k) (.dF (lotsE L) nn)).set (.t (k+1+cl.length)) (.vw (.t k))) (.t p.2)=some (.list ((lotL cl (root S'.ab) p.1).map VN)):=λ p hp=>by
   have h1:=l4.ids p hp
   have h2:=l4.lot p hp
   rw [aV]at h2
   exact(av (tne (by exact aF (And.right ‹_›)))).trans ((av (tne (by exact bu (And.left ‹_›)))).trans h2)
  have H5:HS ((dM.set (.t k) (.dF (lotsE L) nn)).set (.t (k+1+cl.length)) (.vw (.t k))) (w+1) S:=H4.setT.setT
  have F5:FrX k μ ((dM.set (.t k) (.dF (lotsE L) nn)).set (.t (k+1+cl.length)) (.vw (.t k))):=(G4.set (an _)).set (by lia)
  have f5:Fresh (k+2+cl.length) ((dM.set (.t k) (.dF (lotsE L) nn)).set (.t (k+1+cl.length)) (.vw (.t k))):=Fresh.set ((f4.le (by simp_all)).set (by lia)) (by simp_all)
  generalize (dM.set (.t k) (.dF (lotsE L) nn)).set (.t (k+1+cl.length)) (.vw (.t k))=dZ at g1 g2 g3 H5 F5 f5 ⊢
  have hLz:L.length<=10:=by have:=l4.len;exact nT ‹_› ‹_›
  have hlz:∀ h,(lotL cl (root S'.ab) h).length<=10:=λ h=>nT (bF _ _) hrz
  have hm:∀ h,h∈L.map (·.1)↔h∈cl.map (root S'.ab):=λ h=>by have:=l4.mem h;rwa [aV]at this
  have hof:∀ h∈L.map (·.1),∃ c∈cl,h=root S'.ab c:=λ h hh=>by
   obtain⟨c,hc,e⟩:=List.mem_map.mp ((hm h).mp hh)
   exact⟨c,hc,e.symm⟩
  refine⟨_,_,_,IT.values,⟨g1,g2⟩,trivial,[],IvV65b cl (root S'.ab) L dZ,by simp,by simp,λ _ _ _ _ hI=>by apply hI;exact⟨g1,g2⟩,(.mk rfl rfl),?_,?_⟩
  ·intro R' C' cl' i z ys ec eA hz' hI
   apply hI
   unfold lotsE at hz'
   rw [bv,aD]at hz'
   obtain⟨p,hp,rfl⟩:=Option.map_eq_some_iff.mp hz'
   have hl:=g3 p (ap hp)
   refine cD ec "lot" (.ref (.t p.2)) λ e7 u7=>?_
   have ht:(L.take (i+1)).map (·.1)=(L.take i).map (·.1) ++ [p.1]:=by rw [aK,hp,ax];rfl
   have hy:((lotsK cl (root S'.ab) ((L.take i).map (·.1))).map tupV).length<=sizeLine:=sz (by
    rw [ah]
    refine nT zfn ?_
    rw [ah,be];exact nT (bg _ _) (nT ‹_› (by decide)))
   refine ba (.inl rfl) u7<|WIfs.one<|cr<|cB (.builtin "len") (aj<|ak u7.lk<|aq<|CV.lenM (.ref hl) (sz (by have:=hlz p.1;exact nT ‹_› (by decide))) ?_)
   refine cT (n:=1)<|P2.gtN<|bz ⟨λ hc Y=>cB (.type "tuple") (aj<|ak u7.lk<|aq<|CV.tupleL (.ref hl) (sz (by rw [ah];have:=hlz p.1;exact nT ‹_› (by decide))) ⟨hy,.mk rfl (?_)⟩),λ hc=>(.mk rfl (?_))⟩
   ·rw [ht,zb0,aB (cv hc),ax]
    show _=_ ++ [tupV _]
    rw [zgS]
   ·rw [ht,zb0,aw (cj hc),cM]
  ·intro ys ec eA hI
   apply hI
   have e:((lotsE L).map (·.2)).length=L.length:=by unfold lotsE;rw [ah,ah]
   rw [e,aV]
   refine .inl<|aq<|CV.sortedT (f:=false) .lst (LO.nodup l4.nd hof) ziD (nT zfn (by rw [ah];exact nT ‹_› (by decide))) λ l' p asc=>.inl ?_
   rw [LO.sorted hm p asc]
   exact q (w+1) (k+2+cl.length) dZ H5 (by lia) f5 F5
end
/-! law 01: data is like itself;the homes and the lots -/
inductive Dat:Nat->V->Prop
 | int {n:Nat} (i:Int):Dat n (.int i)
 | str {n:Nat} (x:Str):Dat n (.str x)
 | bool {n:Nat} (b:Bool):Dat n (.bool b)
 | tup {n:Nat} {xs:List V} (h:∀ x∈xs,Dat n x):Dat (n+1) (.tup xs)
 | lst {n:Nat} {xs:List V} (h:∀ x∈xs,Dat n x):Dat (n+1) (.lst xs)
theorem eqAll {μ:Mem}{n:Nat}:∀ {xs:List V},(∀ x∈xs,EqV μ n [x] [x] true true)->EqV μ n xs xs false true
 | [],_=>.nilL
 | x :: xs,h=>EqV.cons (b:=true) (c:=true) (h x (.head _)) (eqAll λ y hy=>h y (.tail _ hy))
theorem Dat.eq {μ:Mem}{n:Nat}{x:V}(d:Dat n x):EqV μ n [x] [x] true true:=by
 induction d with
 | int i=>have h:=EqV.int (μ:=μ) (n:=n_1) i i;rwa [show (i == i)=true from by simp]at h
 | str x=>have h:=EqV.str (μ:=μ) (n:=n_1) x x;rwa [show (x == x)=true from by simp]at h
 | bool b=>have h:=EqV.bool (μ:=μ) (n:=n_1) b b;rwa [show (b == b)=true from by simp]at h
 | tup h ih=>have h:=EqV.tup (eqAll ih);rwa [show (true && xs.length == xs.length)=true from by simp]at h
 | lst h ih=>exact .list .lst .lst rfl (eqAll ih)
theorem zch {α:Type}{n:Nat}{f:α->V}{l:List α}(h:∀ x∈l,Dat n (f x)):∀ y∈l.map f,Dat n y:=λ y hy=>by
 obtain⟨x,hx,rfl⟩:=List.mem_map.mp hy
 exact h x hx
theorem zdx {n:Nat}(l:List Nat):Dat (n+1) (.lst (l.map VN)):=.lst (zch λ _ _=>.int _)
theorem zjT {n:Nat}(k:List KA):Dat (n+1) (tupV k):=.tup (zch λ a _=>by cases a <;> first | exact .str _ | exact .int _)
theorem zg3 {n:Nat}(l:List (List KA)):Dat (n+2) (.lst (l.map tupV)):=.lst (zch λ _ _=>zjT _)
theorem zh6 (S:St):Dat 5 (photoW S):=by
 refine .tup λ y hy=>?_
 simp only [bD,List.not_mem_nil,or_false]at hy
 rcases hy with rfl | rfl | rfl | rfl | rfl | rfl | rfl | rfl
 ·exact .int _
 ·refine .lst (zch λ c _=>.tup λ y hy=>?_)
  simp only [bD,List.not_mem_nil,or_false]at hy
  rcases hy with rfl | rfl | rfl | rfl
  ·exact .int _
  ·exact zdx _
  ·exact zg3 _
  ·exact zdx _
 ·refine .lst (zch λ c _=>?_)
  unfold soughtV
  cases kget S.known (nd S c)with
  | none=>exact .int _
  | some m=>exact .int _
 ·refine .lst (zch λ e _=>.tup λ y hy=>?_)
  simp only [bD,List.not_mem_nil,or_false]at hy
  rcases hy with rfl | rfl | rfl
  ·exact .int _
  ·exact .int _
  ·exact .tup (zch λ _ _=>.str _)
 ·exact zdx _
 ·exact .bool _
 ·exact .int _
 ·exact .int _
noncomputable def mem2 (td:List (Nat × Nat)):Nat->Nat->Prop:=λ a c=>(a,c)∈td
theorem zgy {N:List Nd}{td ps:List (Nat × Nat)}{a b:Nat}:CC N (plus (mem2 td) ps) a b↔CC N (λ a c=>(a,c)∈td ++ ps) a b :=
 ⟨λ x=>x.mono λ a b q=>.base (List.mem_append.mpr q),λ x=>x.mono λ a b q=>.base (List.mem_append.mp q)⟩
section
variable {S S' S0:St}{td ps:List (Nat × Nat)}{M M':List Nat}
theorem zdT {N:List Nd}{P:Nat->Nat->Prop}{M:List Nat}(L:LM N P M){x:Nat}:x∈M↔∃ i,i < N.length/\lb M i=x:=by
 constructor
 ·intro h
  obtain⟨i,hi,e⟩:=bH h
  exact⟨i,by rw [<- L.len];exact hi,by unfold lb;rw [aA,al hi];exact e⟩
 ·rintro⟨i,hi,rfl⟩
  exact ziI (by rw [L.len];exact hi)
theorem HM.classes (C:CI (mem2 td) S)(hM:HM S.nodes td M)(ht:∀ p∈td,p.1 < S.nodes.length/\p.2 < S.nodes.length):ascN M=rootsOf S.ab:=by
 have n10:=C.T.n10
 have hroot:=hM.rootE ht C.calm.b rfl λ a c ha hc=>C.like ha hc
 symm
 refine zdJ (λ k hk=>?_) (List.pairwise_lt_range.filter _) λ k=>?_
 ·obtain⟨i,hi,rfl⟩:=(zdT hM.lm).mp hk
  have:=hM.lm.lt hi
  exact nuy ‹_› ‹_›
 ·rw [zdT hM.lm]
  constructor
  ·intro h
   obtain⟨h1,h2⟩:=List.mem_filter.mp h
   have h1:=List.mem_range.mp h1
   rw [C.T.ab]at h1
   refine⟨k,h1,?_⟩
   rw [hroot k h1]
   exact zak (by rw [aA,show S.ab[k]? = some k from by simpa using h2];exact bj _)
  ·rintro⟨i,hi,rfl⟩
   rw [hroot i hi]
   have h3:=C.calm.b.root_lt' hi
   exact List.mem_filter.mpr ⟨List.mem_range.mpr (by rw [C.T.ab];exact h3),by have:=zaJ C.T.le i (by rw [C.T.ab];exact hi);simpa using this⟩
theorem HM.lots (C:CI (mem2 td) S)(hM':HM S.nodes (td ++ ps) M')(ht:∀ p∈td ++ ps,p.1 < S.nodes.length/\p.2 < S.nodes.length){n:Nat}(tr:Tried S (mem2 td) ps n S' S0):lotsK (rootsOf S.ab) (lb M') (ascN M')=joinedK (rootsOf S.ab) (root S'.ab):=by
 have n10:=C.T.n10
 have hroot:=hM'.rootE ht tr.wb tr.nodes λ a c ha hc=>(tr.like a c ha hc).trans zgy
 have hrl:∀ c∈rootsOf S.ab,c < S.nodes.length:=λ c hc=>by
  have:=List.mem_range.mp (List.mem_filter.mp hc).1
  rw [<- C.T.ab];exact this
 have e1:ascN M'=ascN ((rootsOf S.ab).map (root S'.ab)):=zhY λ x=>by
  rw [zdT hM'.lm,List.mem_map]
  constructor
  ·rintro⟨i,hi,rfl⟩
   have h3:=C.calm.b.root_lt' hi
   refine⟨root S.ab i,List.mem_filter.mpr ⟨List.mem_range.mpr (by rw [C.T.ab];exact h3),by have:=zaJ C.T.le i (by rw [C.T.ab];exact hi);simpa using this⟩,?_⟩
   rw [hroot i hi]
   exact(tr.like _ _ h3 hi).mpr (((C.like h3 hi).mp (C.calm.b.root_root hi)).mono λ a b h=>.base (.inl h))
  ·rintro⟨c,hc,rfl⟩
   exact⟨c,hrl c hc,hroot c (hrl c hc)⟩
 have e2:∀ h,lotK (rootsOf S.ab) (lb M') h=lotK (rootsOf S.ab) (root S'.ab) h:=λ h=>by
  unfold lotK lotL
  rw [List.filter_congr λ c hc=>by rw [hroot c (hrl c hc)]]
 unfold joinedK lotsK
 rw [e1,List.map_congr_left λ h _=>e2 h]
end
/-! law 01: the walk of _law_tried_right -/
structure TQ (k:Nat)(S:St)(td ps:List (Nat × Nat))(vt:V)(k0 b:Nat)(μ:Mem):Prop where
 H:∃ w,HS μ w S
 T:TH μ
 B:Feed μ b
 f:Fresh k μ
 vt:PV μ k0 vt (td.map pairV)
 pr:μ (.t k0)=some (.list (ps.map pairV))
theorem FrX.pr {k j:Nat}{μ dl:Mem}(F:FrX k μ dl)(h:j < k){o:MO}(e:μ (.t j)=some o):dl (.t j)=some o:=(F.t j h).trans e
theorem TQ.x {k k':Nat}{S:St}{td ps:List (Nat × Nat)}{vt:V}{k0 b:Nat}{μ dl:Mem}(q:TQ k S td ps vt k0 b μ)(hk:k0 < k)(F:FrX k μ dl)(H:∃ w,HS dl w S)(f:Fresh k' dl):TQ k' S td ps vt k0 b dl :=
 ⟨H,q.T.keepX F,q.B.keep (F.h 17 (by decide)),f,q.vt.keep (F.le (az hk)),F.pr hk q.pr⟩
structure TN (ρ:Loc)(vt:V)(k0:Nat)(S:St)(M M':List Nat):Prop where
 feed:Lk ρ "feed" (.ref (.h 17))
 heap:Lk ρ "heap" (.ref (.h 0))
 trial:Lk ρ "trial" (.ref (.h 16))
 told:Lk ρ "told" vt
 pairs:Lk ρ "pairs" (.ref (.t k0))
 photo:Lk ρ "photo" (photoW S)
 before:Lk ρ "before" (.lst (M.map VN))
 behind:Lk ρ "behind" (.lst (M'.map VN))
theorem TN.up {ρ dm:Loc}{vt:V}{k0:Nat}{S:St}{M M':List Nat}(n:TN ρ vt k0 S M M'){x:Str}{v:V}(u:Up ρ x v dm)(hx:x∉(["feed","heap","trial","told","pairs","photo","before","behind"]:List Str):=by decide):TN dm vt k0 S M M':=by
 simp only [bD,List.not_mem_nil,or_false,not_or]at hx
 obtain⟨h1,h2,h3,h4,h5,h6,h7,h8⟩:=hx
 exact⟨u.lk' n.feed (cp h1),u.lk' n.heap (cp h2),u.lk' n.trial (cp h3),u.lk' n.told (cp h4),u.lk' n.pairs (cp h5),u.lk' n.photo (cp h6),u.lk' n.before (cp h7),u.lk' n.behind (cp h8)⟩
structure TK (S:St)(td ps:List (Nat × Nat))(M M':List Nat):Prop where
 C:CI (mem2 td) S
 O:Okn S.nodes
 two:2<=S.nodes.length
 tz:td.length<=10
 pz:ps.length<=10
 ht:∀ p∈td,p.1 < S.nodes.length/\p.2 < S.nodes.length
 hp:∀ p∈ps,p.1 < S.nodes.length/\p.2 < S.nodes.length
 hM:HM S.nodes td M
 hM':HM S.nodes (td ++ ps) M'
theorem TK.app {S:St}{td ps:List (Nat × Nat)}{M M':List Nat}(K:TK S td ps M M'):∀ p∈td ++ ps,p.1 < S.nodes.length/\p.2 < S.nodes.length:=λ p h=>(List.mem_append.mp h).elim (K.ht p) (K.hp p)
theorem TK.would {S:St}{td ps:List (Nat × Nat)}{M M':List Nat}(K:TK S td ps M M'){a b:Nat}(ha:a < S.nodes.length)(hb:b < S.nodes.length):wd S.nodes (mem2 td) ps a b=decide (lb M' a=lb M' b):=by
 rw [bW,ziS,decide_eq_true_iff,K.hM'.like K.app ha hb]
 exact zgy
theorem TK.would0 {S:St}{td ps:List (Nat × Nat)}{M M':List Nat}(K:TK S td ps M M'){a b:Nat}(ha:a < S.nodes.length)(hb:b < S.nodes.length):wd S.nodes (mem2 td) [] a b=decide (lb M a=lb M b):=by
 rw [bW,ziS,decide_eq_true_iff,K.hM.like K.ht ha hb]
 exact zgy.trans (by rw [cM])
theorem marksIt {N:List Nd}{P:Nat->Nat->Prop}{M:List Nat}(L:LM N P M){a:Nat}(h:a < N.length):(M.map VN)[a]? = some (VN (lb M a)):=by
 rw [aD];unfold lb;rw [aA,al (by rw [L.len];exact h)];rfl
inductive IvV67a (k:Nat)(S:St)(td ps:List (Nat × Nat))(vt:V)(k0 b:Nat)(M M':List Nat)(ev:Mem)(i:Nat)(dm:Loc)(dl:Mem):Prop
 | mk (n:TN dm vt k0 S M M') (q:TQ k S td ps vt k0 b dl) (F:FrX k ev dl)
noncomputable def IvV67b (cl hs M':List Nat)(μ:Mem)(i:Nat)(ys:List V)(dm:Loc)(dl:Mem):Prop:=∀ (C:Mem->List V->Prop),(∀ (h1:Lk dm "classes" (.lst (cl.map VN))) (h2:Lk dm "behind" (.lst (M'.map VN))),C (μ) (((hs.take i).map (lotK cl (lb M'))).map tupV))->C dl ys
theorem IvV67b.mk {cl hs M':List Nat}{μ:Mem}{i:Nat}{ys:List V}{dm:Loc}{dl:Mem}(e:dl=μ)(hy:ys=((hs.take i).map (lotK cl (lb M'))).map tupV)(h1:Lk dm "classes" (.lst (cl.map VN)))(h2:Lk dm "behind" (.lst (M'.map VN))):IvV67b cl hs M' μ i ys dm dl:=by
 subst e hy;exact λ C k=>k h1 h2
noncomputable def IvV67c (cl M':List Nat)(h:Nat)(μ:Mem)(j:Nat)(ys:List V)(dm:Loc)(dl:Mem):Prop:=∀ (C:Mem->List V->Prop),(∀ (h1:Lk dm "behind" (.lst (M'.map VN))) (h2:Lk dm "home" (VN h)),C (μ) ((lotL (cl.take j) (lb M') h).map VN))->C dl ys
theorem IvV67c.mk {cl M':List Nat}{h:Nat}{μ:Mem}{j:Nat}{ys:List V}{dm:Loc}{dl:Mem}(e:dl=μ)(hy:ys=(lotL (cl.take j) (lb M') h).map VN)(h1:Lk dm "behind" (.lst (M'.map VN)))(h2:Lk dm "home" (VN h)):IvV67c cl M' h μ j ys dm dl:=by
 subst e hy;exact λ C k=>k h1 h2
noncomputable def IvV67d (cl hs M':List Nat)(μ:Mem)(i:Nat)(ys:List V)(dm:Loc)(dl:Mem):Prop:=∀ (C:Mem->List V->Prop),(C (μ) ((lotsK cl (lb M') (hs.take i)).map tupV))->C dl ys
theorem IvV67d.mk {cl hs M':List Nat}{μ:Mem}{i:Nat}{ys:List V}{dm:Loc}{dl:Mem}(e:dl=μ)(hy:ys=(lotsK cl (lb M') (hs.take i)).map tupV):IvV67d cl hs M' μ i ys dm dl:=by
 subst e hy;exact λ C k=>k
section
variable {X:Ctx}{l:Nat}{μ:Mem}
variable {R:Nat->Option Obj}{env:Env}{ρ:Loc}{w:Nat}{S S' S0:St}{P:Nat->Nat->Prop}
theorem zef {k k0 b:Nat}{td ps:List (Nat × Nat)}{vt:V}{M M':List Nat}{p1 p2 p3:Pos}{L:Nat}{Q:Bool->Mem->Prop}(K:TK S td ps M M')(n:TN ρ vt k0 S M M')(q:TQ k S td ps vt k0 b μ)(h:Q false μ){p4 p5:Pos} :
  WB X (l+7) R (cellEnv zaB L zah) ρ μ (.Compare (.Call (.Name "_law_photo" p1) [.Name "heap" p2] [] p3) [.NotEq] [.Name "photo" p4] p5) Q:=by
 obtain⟨w,H⟩:=q.H
 refine cr<|de (f:=.ref za0) (cS rfl (by kernel_rfl) ⟨rfl,aj<|ak n.heap<|aq<|aU<|zei (l:=l+1) H K.C ?_⟩) (by kernel_rfl)
 exact ak n.photo<|P2.ne (zh6 S).eq (by decide)<|bz h
theorem PV.tk {k:Nat}{μ dl:Mem}{v:V}{l:List V}(h:PV μ k v l)(F:∀ j,j < k->dl (.t j)=μ (.t j)):PV dl k v l:=by
 induction h with
 | lst=>exact .lst
 | ref hj e=>exact .ref hj ((F _ hj).trans e)
set_option maxHeartbeats 8000000 in
theorem zbL {k b:Nat}{td:List (Nat × Nat)}{vt:V}{Q:V->Mem->Prop}(H:HS μ w S)(T:TH μ)(C:CI (mem2 td) S)(O:Okn S.nodes)(two:2<=S.nodes.length)(B:Feed μ b)(hb:b<=500)(hk:Fresh k μ)(hvt:PV μ k vt (td.map pairV))(tz:td.length<=10)(ht:∀ p∈td,p.1 < S.nodes.length/\p.2 < S.nodes.length)
  (q:∀ w' k' dl,HS dl w' S->TH dl->Feed dl (b+20)->k<=k'->Fresh k' dl->(∀ j,j < k->dl (.t j)=μ (.t j))->Q (.bool true) dl):Cs X (l+14) (.ref zah) [.ref (.h 17),.ref (.h 0),.ref (.h 16),vt] μ Q:=by
 have n10:=C.T.n10
 refine zcK λ R L=>bJ<|XS.assignSwap (names:=["pairs","photo"])<|cm<|aj<|de (f:=.ref zar) (cS rfl (by kernel_rfl) ⟨rfl,aj<|ak .here<|aj<|ak (.there .here)<|aj<|W.draw (l:=l+10) rfl .here (b:=b) (by exact nT ‹_› (by decide))<|cT (n:=4) ⟨4,rfl,by decide,B,λ n dG hn B1 F1=>aq<|aU<|zb2 (l:=l+3) (k:=k) (F1.hs H) rfl B1 (by exact aM ‹_› (by decide)) (by exact cK ‹_›) (by exact nT ‹_› (by decide)) (by exact az (au ‹_› (by decide))) (F1.fresh hk) λ ps dA hpl hp B2 F2 f2 e2=>?_⟩⟩) (by kernel_rfl)
 have H2:=F2.hs (F1.hs H)
 have T2:TH dA:=(F2 _ (by decide) (by simp)).trans ((F1 _ (by decide)).trans T)
 have k2:∀ j,j < k->dA (.t j)=μ (.t j):=λ j hj=>(F2 _ (by simp) (λ i hi e=>by cases e;exact Nat.not_le_of_lt ‹_› ‹_›)).trans (F1 _ (by simp))
 have vt2:=hvt.tk k2
 refine aj<|de (f:=.ref za0) (cS rfl (by kernel_rfl) ⟨rfl,aj<|ak (.there .here)<|aq<|aU<|zei (l:=l+7) H2 C ?_⟩) (by kernel_rfl)
 refine aq ⟨szr rfl,?_⟩
 refine Up.e2 [(("feed":Str),V.ref (.h 17)),("heap",.ref (.h 0)),("trial",.ref (.h 16)),("told",vt)] "photo" (photoW S) "pairs" (.ref (.t k)) λ dE u1 dH u2=>?_
 refine dj rfl<|ATs.bind (.inl rfl) u1<|ATs.bind (.inl rfl) u2<|cX ⟨rfl,?_⟩
 have n1:=u2.lk' (u1.lk' .here (by decide)) (by decide)
 have n2:=u2.lk' (u1.lk' (.there .here) (by decide)) (by decide)
 have n3:=u2.lk' (u1.lk' (.there<|.there .here) (by decide)) (by decide)
 have n4:=u2.lk' (u1.lk' (.there<|.there<|.there .here) (by decide)) (by decide)
 have n5:=u2.lk' u1.lk (by decide)
 have n6:=u2.lk
 clear u1 u2
 refine bJ<|cP<|cm<|aj<|de (f:=.ref zaF) (cS rfl (by kernel_rfl) ⟨rfl,aj<|ak n2<|aj<|ak n4<|aq<|aU<|zcV (l:=l+7) (k:=k) H2 O (by exact nT ‹_› (by decide)) ht vt2.rd λ M hM=>?_⟩) (by kernel_rfl)
 refine aj<|de (f:=.ref zaF) (cS rfl (by kernel_rfl) ⟨rfl,aj<|ak n2<|aj<|cF<|ak n4<|ak n6<|P2.addL vt2.rd (.ref e2) (sz (by rw [ah,ah];exact nvd ‹_› ‹_› ‹_›)) (.inl ?_)⟩) (by kernel_rfl)
 rw [<- ax]
 have hap:∀ p∈td ++ ps,p.1 < S.nodes.length/\p.2 < S.nodes.length:=λ p h=>(List.mem_append.mp h).elim (ht p) (hp p)
 refine aq<|aU<|zcV (l:=l+7) (k:=k) H2 O (by rw [aC];exact nsm ‹_› ‹_› ‹_›) hap .lst λ M' hM'=>aq ⟨szr rfl,?_⟩
 have K:TK S td ps M M':=⟨C,O,two,tz,by exact nso ‹_› ‹_›,ht,hp,hM,hM'⟩
 refine Up.e2 dH "before" (.lst (M.map VN)) "behind" (.lst (M'.map VN)) λ dX u3 ea u4=>?_
 refine da<|dj rfl<|bI<|ba (.inl rfl) u3<|bI<|ba (.inr ⟨rfl,rfl⟩) u4<|cX ⟨rfl,?_⟩
 have N:TN ea vt k S M M':=⟨u4.lk' (u3.lk' n1 (by decide)) (by decide),u4.lk' (u3.lk' n2 (by decide)) (by decide),u4.lk' (u3.lk' n3 (by decide)) (by decide),u4.lk' (u3.lk' n4 (by decide)) (by decide),u4.lk' (u3.lk' n6 (by decide)) (by decide),u4.lk' (u3.lk' n5 (by decide)) (by decide),u4.lk' u3.lk (by decide),u4.lk⟩
 clear u3 u4 n1 n2 n3 n4 n5 n6
 refine bJ<|XS.for_<|cA<|cF<|de (f:=.ref zar) (cS rfl (by kernel_rfl) ⟨rfl,aj<|ak N.feed<|aj<|ak N.heap<|aj<|cT (n:=2)<|aq<|aU<|zb2 (l:=l+3) (k:=k+1) H2 rfl B2 (by exact nsn ‹_› ‹_›) (by exact cK ‹_›) (by exact nT ‹_› (by decide)) (by exact nT ‹_› ‹_›) f2 λ qs dD hql hq B3 F3 f3 e3=>?_⟩) (by kernel_rfl)
 have e23:dD (.t k)=some (.list (ps.map pairV)):=(F3 _ (by simp) (λ i hi e=>by cases e;exact bj _ (‹_›))).trans e2
 refine ak N.pairs<|P2.addL (.ref e3) (.ref e23) (sz (by rw [ah,ah];exact nsl ‹_› ‹_› ‹_›)) (.inl ?_)
 rw [<- ax]
 have k3:∀ j,j < k->dD (.t j)=μ (.t j):=λ j hj=>(F3 _ (by simp) (λ i hi e=>by cases e;exact bj _ (nT ‹_› (az ‹_›)))).trans (k2 j hj)
 have Q3:TQ (k+1+1) S td ps vt k (b+1+2 * n+2 * 2) dD:=⟨⟨w,F3.hs H2⟩,(F3 _ (by decide) (by simp)).trans T2,B3,f3,hvt.tk k3,e23⟩
 have hqs:∀ p∈qs ++ ps,p.1 < S.nodes.length/\p.2 < S.nodes.length:=λ p h=>(List.mem_append.mp h).elim (hq p) (hp p)
 refine⟨_,_,_,cY,.lst,trivial,IvV67a (k+1+1) S td ps vt k (b+1+2 * n+2 * 2) M M' dD,λ _ _ _ _=>.lst,⟨N,Q3,.rfl⟩,?_,?_⟩
 ·clear N Q3
  rintro R' i z d0 dZ hz ⟨N,Q5,F5⟩
  apply mapE hz;intro q9 hxy
  obtain⟨x,y⟩:=q9
  obtain⟨hx,hy⟩:=hqs _ (ap hxy)
  refine Up.e2 d0 "a" (VN x) "b" (VN y) λ eO u6 e7 u7=>?_
  refine da<|dj rfl<|bI<|ba (.inl rfl) u6<|bI<|ba (.inl rfl) u7<|cX ?_
  have N:=(N.up u6).up u7
  have na:=u7.lk' u6.lk (by decide)
  have nb:=u7.lk
  clear u6 u7
  obtain⟨w5,H5⟩:=Q5.H
  refine cZ<|WB.or<|cr<|aW<|ak N.trial<|bc Q5.T (f:=zaL) (by kernel_rfl) (by decide) ⟨by kernel_rfl,aj<|ak N.pairs<|aj<|ak na<|aj<|ak nb<|aq<|aU<|zem (l:=l+4) (k:=k+1) H5 Q5.T C.calm (.ref (bw _) Q5.pr) (by exact nso ‹_› ‹_›) hp hx hy (C.would ps x y (by exact nso ‹_› ‹_›) hp hx hy) λ eA H6 F6=>?_⟩
  have Q6:=Q5.x (by lia) F6.x ⟨_,H6⟩ (Q5.f.h F6)
  have F6':=F5.trans F6.x
  refine W.cmp<|cC<|ak N.behind<|ak na<|bX .lst (by exact nT (az ‹_›) (nT ‹_› (by decide))) (marksIt hM'.lm hx)<|cC<|ak N.behind<|ak nb<|bX .lst (by exact nT (az ‹_›) (nT ‹_› (by decide))) (marksIt hM'.lm hy)<|P2.eqN<|P2.ne (n:=0) (.bool _ _) (by decide)<|bz ⟨λ _=>?_,λ hc=>?_⟩
  ·refine WB.or (zef (l:=l+6) K N Q6 ?_)
   exact⟨λ _=>WB.orNil ⟨λ hc=>absurd hc (by decide),λ _=>di<|cg ⟨λ _=>⟨N,Q6,F6'⟩,λ x e=>dead e⟩⟩,λ hc=>absurd hc (by decide)⟩
  ·rw [K.would hx hy]at hc
   simp at hc
 ·clear N Q3
  rintro d0 dZ ⟨N,Q5,F5⟩
  refine⟨rfl,?_⟩
  have k5:∀ j,j < k->dZ (.t j)=μ (.t j):=λ j hj=>(F5.t j (by lia)).trans (k3 j hj)
  have F5':=F5
  have M17:∀ k∈M,k < 17:=λ k hk=>by
   obtain⟨i,hi,rfl⟩:=(zdT hM.lm).mp hk
   have:=hM.lm.lt hi
   exact au (au ‹_› ‹_›) (by decide)
  have M17':∀ k∈M',k < 17:=λ k hk=>by
   obtain⟨i,hi,rfl⟩:=(zdT hM'.lm).mp hk
   have:=hM'.lm.lt hi
   exact au (au ‹_› ‹_›) (by decide)
  have hMl:=hM.lm.len
  have hMl':=hM'.lm.len
  refine db (.inr ⟨rfl,rfl⟩)<|cB (.builtin "sorted") (aj<|cB (.type "set") (aj<|ak N.before<|aq ?_))
  refine CV.mono (CV.ssetN (ks:=M) (by exact nT (aG ‹_›) (nT ‹_› (by decide))) M17 .lst λ cl m1 m2=>.inl ?_) λ y dl h=>aq h
  obtain rfl:cl=rootsOf S.ab:=(zdJ M17 m1 m2).trans (hM.classes C ht)
  clear m1 m2
  have hrl:∀ c∈rootsOf S.ab,c < S.nodes.length:=λ c hc=>by
   have:=List.mem_range.mp (List.mem_filter.mp hc).1
   rw [<- C.T.ab];exact this
  have hrz:(rootsOf S.ab).length<=10:=nT (bF _ _) (by rw [aL,C.T.ab];exact n10)
  obtain⟨n',S'',S0',tr⟩:=C.tried ps (by exact nso ‹_› ‹_›) hp
  have hlots:=hM'.lots C hap tr
  generalize hcl0:rootsOf S.ab=cl at hrl hrz hlots ⊢
  refine cD d0 "classes" (.lst (cl.map VN)) λ eO u6=>?_
  refine⟨eO,u6,?_⟩
  have N:=N.up u6
  have ncl:=u6.lk
  clear u6
  refine XB.asgC<|XS.asgCompC (v:="home") rfl (zh0 rfl)<|cA<|cB (.builtin "sorted") (aj<|cB (.type "set") (aj<|ak N.behind<|aq ?_))
  refine CV.mono (CV.ssetN (ks:=M') (by exact nT (aG ‹_›) (nT ‹_› (by decide))) M17' .lst λ hs m1 m2=>.inl ?_) λ y dl h=>aq h
  obtain rfl:hs=ascN M':=zdJ M17' m1 m2
  clear m1 m2
  have hsz:(ascN M').length<=17:=by unfold ascN;exact nT (bF _ _) (by rw [aL];decide)
  generalize ascN M'=hs at hsz hlots ⊢
  have hlz:∀ j h,(lotL (cl.take j) (lb M') h).length<=10:=λ j h=>nT (bF _ _) (by rw [be];exact nT (bg _ _) (‹_›))
  refine cD eO "lots" (.lst ((hs.map (lotK cl (lb M'))).map tupV)) λ e7 u7=>?_
  refine⟨_,_,_,cY,.lst,trivial,[("classes",.lst (cl.map VN)),("behind",.lst (M'.map VN))],IvV67b cl hs M' _,?_,show (["classes","behind"]:List Str).Nodup from by decide,λ _ _ _ _ _=>.lst,(.mk rfl rfl .here (.there .here)),?_,?_⟩
  ·exact cell2 ncl N.behind
  ·rintro R' C' cl' i z ys dm dl ⟨c0,hc0,hR0⟩ hz hI
   apply hI;intro o1 o2
   apply mapE hz;intro h hh
   refine cD dm "home" (VN h) λ ρ8 u8=>?_
   have o1:=u8.lk' o1 (by decide)
   have o2:=u8.lk' o2 (by decide)
   have o3:=u8.lk
   refine AT.own rfl hc0 hR0 u8<|cR ⟨λ Y R9=>cB (.type "tuple") (aj<|dg (zac rfl)<|cA<|ak o1 ⟨_,_,_,cY,.lst,trivial,[("behind",.lst (M'.map VN)),("home",VN h)],IvV67c cl M' h _,?_,show (["behind","home"]:List Str).Nodup from by decide,λ _ _ _ _ _=>.lst,(.mk rfl rfl .here (.there .here)),?_,?_⟩),λ e=>dead e⟩
   ·exact cell2 o2 o3
   ·intro R3 C3 cl3 j z ys eP μ9 hz3 hI
    apply hI;intro p1 p2
    apply mapE hz3;intro c hc
    have hcl:=hrl c (ap hc)
    refine cD eP "c" (VN c) λ ρa ua=>?_
    have p1:=ua.lk' p1 (by decide)
    have p2:=ua.lk' p2 (by decide)
    refine ba (.inl rfl) ua<|WIfs.one<|cr<|cC<|ak p1<|ak ua.lk<|bX .lst (by exact nT (az ‹_›) (nT ‹_› (by decide))) (marksIt hM'.lm hcl)<|ak p2<|P2.eqN<|bz ⟨λ hc2 Y=>ak ua.lk ⟨sz (by rw [ah];have:=hlz j h;exact nT ‹_› (by decide)),.mk rfl (?_) p1 p2⟩,λ hc2=>(.mk rfl (?_) p1 p2)⟩
    ·rw [zcz hc,aB (cv hc2),ax];rfl
    ·rw [zcz hc,aw (cj hc2),cM]
   ·intro ys eP μ9 hI
    apply hI;intro _ _
    refine bo (zaG (f:=VN) (xs:=cl)) ▸ ?_
    have hl:=hlz cl.length h
    rw [aV]at hl
    refine .inl<|aq<|CV.tupleL .lst (sz (by rw [ah];exact nT ‹_› (by decide))) ⟨sz (by rw [ah,ah,be];exact nT (bg _ _) (nT ‹_› (by decide))),.mk rfl (?_) o1 o2⟩
    rw [<- zgS,aK,hh,ax,ax];rfl
  ·intro ys dm dl hI
   apply hI;intro _ _
   refine bo (zaG (f:=VN) (xs:=hs)) ▸ ?_
   refine .inl ⟨e7,u7,rfl,?_⟩
   have N:=N.up u7
   have nlo:=u7.lk
   clear u7 ncl
   obtain⟨w5,H5⟩:=Q5.H
   refine cZ<|WB.or<|cr<|aW<|ak N.trial<|bc Q5.T (f:=zat) (by kernel_rfl) (by decide) ⟨by kernel_rfl,aj<|ak N.pairs<|aq<|aU<|zgm (l:=l+4) (k:=k+1+1) H5 Q5.T C Q5.f (.ref (by lia) Q5.pr) (by exact nso ‹_› ‹_›) hp tr λ w6 k6 eA H6 hk6 f6 F6=>?_⟩
   have Q6:=Q5.x (by lia) F6 ⟨_,H6⟩ f6
   have k6':∀ j,j < k->eA (.t j)=μ (.t j):=λ j hj=>(F6.t j (by lia)).trans (k5 j hj)
   refine dg (zac rfl)<|cA<|ak nlo ⟨_,_,_,cY,.lst,trivial,[],IvV67d cl hs M' _,by simp,by simp,λ _ _ _ _ _=>.lst,(.mk rfl rfl),?_,?_⟩
   ·intro R' C' cl' i z ys dm μ7 hz hI
    apply hI
    rw [bv,aD]at hz
    obtain⟨h,hh,rfl⟩:=Option.map_eq_some_iff.mp hz
    refine cD dm "lot" (.tup ((lotL cl (lb M') h).map VN)) λ ρ8 u8=>?_
    have hl:=hlz cl.length h
    rw [aV]at hl
    have ht1:hs.take (i+1)=hs.take i ++ [h]:=by rw [aK,hh];rfl
    have ez:(tupV ∘ lotK cl (lb M')) h = .tup ((lotL cl (lb M') h).map VN):=zgS cl (lb M') h
    rw [ez]
    have hy:((lotsK cl (lb M') (hs.take i)).map tupV).length<=sizeLine:=sz (by
     rw [ah]
     refine nT zfn ?_
     rw [be];exact nT (bg _ _) (nT ‹_› (by decide)))
    refine ba (.inl rfl) u8<|WIfs.one<|cr<|cB (.builtin "len") (aj<|ak u8.lk<|aq<|CV.lenT (sz (by rw [ah];exact nT ‹_› (by decide))) ?_)
    rw [show (((lotL cl (lb M') h).map VN).length:Int)=(((lotL cl (lb M') h).length:Nat):Int)from by rw [ah]]
    refine cT (n:=1)<|P2.gtN<|bz ⟨λ hc Y=>ak u8.lk ⟨hy,.mk rfl (?_)⟩,λ hc=>(.mk rfl (?_))⟩
    ·rw [ht1,zb0,aB (cv hc),ax,<- zgS];rfl
    ·rw [ht1,zb0,aw (cj hc),cM]
   ·intro ys dm μ7 hI
    apply hI
    rw [bv,ah,aV,hlots]
    subst hcl0
    refine .inl<|P2.ne (zg3 (n:=0) _).eq (by decide)<|bz ⟨λ _=>?_,λ hc=>absurd hc (by decide)⟩
    refine WB.or (zef (l:=l+6) K N Q6 ?_)
    refine⟨λ _=>WB.orNil ⟨λ hc=>absurd hc (by decide),λ _=>di ?_⟩,λ hc=>absurd hc (by decide)⟩
    have h0:0 < S.nodes.length:=by exact cK ‹_›
    have h1:1 < S.nodes.length:=by assumption
    refine bZ<|W.cmp<|aW<|ak N.trial<|bc Q6.T (f:=zaL) (by kernel_rfl) (by decide) ⟨by kernel_rfl,aj<|cV<|aq ⟨szr rfl,.inl<|aj<|cT (n:=0)<|aj<|cT (n:=1)<|aq<|aU<|zem (l:=l+4) (k:=0) (ps:=[]) H6 Q6.T C.calm .lst (by simp) (by simp) h0 h1 (C.would [] 0 1 (by simp) (by simp) h0 h1) λ μ8 H8 F8=>?_⟩⟩
    refine W.cmp<|cC<|ak N.before<|cT (n:=0)<|bX (i:=0) .lst (by simp_all) (marksIt hM.lm h0)<|cC<|ak N.before<|cT (n:=1)<|bX (i:=1) .lst (by simp_all) (marksIt hM.lm h1)<|P2.eqN<|P2.eq (n:=0) (.bool _ _) (by decide) ?_
    rw [K.would0 h0 h1,beq_self_eq_true]
    exact q _ _ μ8 H8 (Q6.T.keep F8) ((Q6.B.keep (F8 _ rfl)).le (by exact nsk ‹_›)) (by lia) (f6.h F8) λ j hj=>(F8 _ rfl).trans (k6' j hj)
end
/-! law 01: the law -/
theorem zgh {α:Type}(g:α->V)(l:List α)(m:Nat):sliceV (l.map g) none (some (m:Int))=(l.take m).map g:=by
 unfold sliceV kms_lo kms_hi
 dsimp only
 rw [aw (by simp_all),List.drop_zero,Int.toNat_natCast,ah,<- List.map_take]
 rw [Nat.sub_zero]
 rcases Nat.le_total m l.length with h | h
 ·rw [Nat.min_eq_left h]
 ·rw [Nat.min_eq_right h,aV,List.take_of_length_le h]
theorem fmodI (c:Int):V.int (c.fmod ((9973:Nat):Int))=VN (c.fmod 9973).toNat:=by
 have e:c.fmod ((9973:Nat):Int)=c % 9973:=Int.fmod_eq_emod_of_nonneg _ (by decide)
 have e2:c.fmod 9973=c % 9973:=e
 rw [e,e2]
 show V.int _=V.int _
 congr 1
 lia
structure LW (ρ:Loc)(μ:Mem)(b k:Nat)(td:List (Nat × Nat)):Prop where
 feed:Lk ρ "feed" (.ref (.h 17))
 heap:Lk ρ "heap" (.ref (.h 0))
 told:Lk ρ "told" (.ref (.t 1))
 B:Feed μ b
 tv:μ (.t 1)=some (.list (td.map pairV))
 fresh:Fresh k μ
 k2:2<=k
theorem LW.up {ρ dm:Loc}{μ:Mem}{b k:Nat}{td:List (Nat × Nat)}(L:LW ρ μ b k td){x:Str}{v:V}(u:Up ρ x v dm)(hx:x∉(["feed","heap","told"]:List Str):=by decide):LW dm μ b k td:=by
 simp only [bD,List.not_mem_nil,or_false,not_or]at hx
 obtain⟨h1,h2,h3⟩:=hx
 exact⟨u.lk' L.feed (cp h1),u.lk' L.heap (cp h2),u.lk' L.told (cp h3),L.B,L.tv,L.fresh,L.k2⟩
theorem LW.h {ρ:Loc}{μ dl:Mem}{b k:Nat}{td:List (Nat × Nat)}(L:LW ρ μ b k td)(F:FrH μ dl):LW ρ dl b k td :=
 ⟨L.feed,L.heap,L.told,L.B.keep (F _ rfl),(F _ rfl).trans L.tv,L.fresh.h F,L.k2⟩
structure LWb (N:List Nd)(td:List (Nat × Nat)):Prop where
 O:Okn N
 two:2<=N.length
 n7:N.length<=7
 tz:td.length<=2
 ht:∀ p∈td,p.1 < N.length/\p.2 < N.length
noncomputable def IvV68a (cs:List Int)(ev:Mem)(i:Nat)(ys:List V)(dm:Loc)(dl:Mem):Prop:=∀ (C:Mem->List V->Prop),(C (ev) (((cs.take i).map λ c=>(c.fmod 9973).toNat).map VN))->C dl ys
theorem IvV68a.mk {cs:List Int}{ev:Mem}{i:Nat}{ys:List V}{dm:Loc}{dl:Mem}(h1:dl=ev)(h2:ys=((cs.take i).map λ c=>(c.fmod 9973).toNat).map VN):IvV68a cs ev i ys dm dl:=by
 subst h1 h2;exact λ C k=>k
inductive IvV68b (b k:Nat)(td:List (Nat × Nat))(S0 S1:St)(P:Nat->Nat->Prop)(b0 w:Nat)(qs:List (Nat × Nat))(x:Str)(v:V)(ev:Mem)(i:Nat)(dm:Loc)(dl:Mem):Prop
 | mk (S':St) (L:LW dm dl b k td) (H:HS dl w S') (ti:TI S0 P (b0+i) none S') (kp:Keeps S1 S') (all:∀ p∈qs.take i,root S'.ab p.1=root S'.ab p.2) (hx:Lk dm x v) (F:FrH ev dl)
noncomputable def IvV68c (S:St)(ev:Mem)(i:Nat)(ys:List V)(dm:Loc)(dl:Mem):Prop:=∀ (C:Mem->List V->Prop),(∀ (h3:Lk dm "heap" (.ref (.h 0))),C (ev) (((List.range S.nodes.length).take i).map λ n=>VN (root S.ab n)))->C dl ys
theorem IvV68c.mk {S:St}{ev:Mem}{i:Nat}{ys:List V}{dm:Loc}{dl:Mem}(h1:dl=ev)(h2:ys=((List.range S.nodes.length).take i).map λ n=>VN (root S.ab n))(h3:Lk dm "heap" (.ref (.h 0))):IvV68c S ev i ys dm dl:=by
 subst h1 h2;exact λ C k=>k h3
section
variable {X:Ctx}{l:Nat}{μ:Mem}
variable {R:Nat->Option Obj}{env:Env}{ρ:Loc}{w:Nat}{S S':St}
theorem zkq {Q:Fl->Loc->Mem->Prop}{ns:List Int}(hl:30<=l)(hn:ns.length<=63){L:Nat}(next:∀ ρ μ N td,LW ρ μ 40 2 td->LWb N td->HS μ 0 (Built N)->μ (.h 16)=none->XB X l R (cellEnv zbp L zcH) ρ μ (zd3.drop 3) Q) :
  XB X l R (cellEnv zbp L zcH) [("script",.lst (ns.map .int))] (λ _=>none) zd3 Q:=by
 obtain⟨l,rfl⟩:∃ m,l=m+30:=⟨l - 30,by exact nqK ‹_›⟩
 refine db (.inl rfl)<|cV<|aj<|dg (zac rfl)<|cA<|W.sliceL<|ak .here<|WP.nil<|WP.one<|W.cint ⟨60,rfl,_,.lst,sz (by rw [ah];lia),.inl ?_⟩
 have e2:sliceV (ns.map V.int) none (some 60)=(ns.take 60).map .int:=zgh V.int ns 60
 rw [e2]
 have hz:(ns.take 60).length<=60:=by rw [be];exact Nat.min_le_left _ _
 generalize ns.take 60=cs at hz
 refine⟨_,_,_,cY,.lst,trivial,[],IvV68a cs _,by simp,by simp,λ _ _ _ _ _=>.lst,(.mk rfl rfl),?_,?_⟩
 ·intro R2 C2 cl j z ys dm dR hz2 hI
  apply hI
  apply mapE hz2;intro c hc
  refine cD dm "cell" (.int c) λ eP u9=>?_
  refine ba (.inl rfl) u9<|cR ⟨λ _ R9=>cF<|ak u9.lk<|cT (n:=9973)<|P2.modI (by decide) ?_,λ e=>dead e⟩
  rw [fmodI c]
  refine⟨sz (by rw [ah,ah,be];exact nqL (nT ‹_› (by decide))),.mk rfl (?_)⟩
  rw [aK,hc,ax,ax];rfl
 intro ys dm dl hI
 apply hI
 refine bo (zaG (f:=V.int) (xs:=cs)) ▸ ?_
 refine .inl<|aj<|cT (n:=0)<|aq ⟨szr rfl,.inr ⟨.h 17,rfl,?_⟩⟩
 refine cD [(("script":Str),V.lst (ns.map .int))] "feed" (.ref (.h 17)) λ dE u1=>?_
 refine⟨dE,u1,?_⟩
 have lf:=u1.lk
 clear u1
 have B0:Feed (Mem.set (λ _=>none) (.h 17) (.list [.lst ((cs.map λ c=>(c.fmod 9973).toNat).map VN),VN 0])) 0:=⟨_,0,by rw [ah];lia,an _,aN⟩
 have n0:∀ j,j ≠ .h 17->(Mem.set (λ _=>none) (.h 17) (.list [.lst ((cs.map λ c=>(c.fmod 9973).toNat).map VN),VN 0])) j=none:=λ j h=>av h
 generalize Mem.set (λ _=>none) (.h 17) (.list [.lst ((cs.map λ c=>(c.fmod 9973).toNat).map VN),VN 0])=ev at B0 n0 ⊢
 refine db (.inr ⟨rfl,rfl⟩)<|de (f:=.ref zbl) (cS rfl (by kernel_rfl) ⟨rfl,aj<|ak lf<|aq<|aU<|zhr (l:=l+10) B0 n0 λ N dG B1 O h2 h7 F1 f1 h16=>?_⟩) (by kernel_rfl)
 refine cD dE "heap" (.ref (.h 0)) λ dH u2=>?_
 refine⟨dH,u2,?_⟩
 have lf:=u2.lk' lf (by decide)
 have lh:=u2.lk
 clear u2
 refine db (.inl rfl)<|de (f:=.ref zar) (cS rfl (by kernel_rfl) ⟨rfl,aj<|ak lf<|aj<|ak lh<|aj<|W.draw (l:=l+27) rfl lf (b:=20) (by decide)<|cT (n:=3) ⟨3,rfl,by decide,F1,λ n dA hn B2 F2=>aq<|aU<|zb2 (l:=l+20) (k:=1) (m:=N.length) (F2.hs B1.H) rfl B2 (by decide) (by exact cK ‹_›) (by exact nT ‹_› (by decide)) (by exact az (au ‹_› (by decide))) (F2.fresh f1) λ td dD htl htd B3 F3 f3 e3=>?_⟩⟩) (by kernel_rfl)
 refine cD dH "told" (.ref (.t 1)) λ dX u3=>?_
 refine⟨dX,u3,?_⟩
 exact next dX dD N td ⟨u3.lk' lf (by decide),u3.lk' lh (by decide),u3.lk,B3.le (by exact nqP ‹_›),e3,f3,an _⟩ ⟨O,h2,h7,by lia,htd⟩ (F3.hs (F2.hs B1.H)) ((F3 _ (by decide) (by simp)).trans ((F2 _ (by decide)).trans h16))
structure LC1 (S:St)(N:List Nd)(td:List (Nat × Nat)):Prop where
 C:CI (mem2 td) S
 n:S.nodes=N
theorem zkv {Q:Fl->Loc->Mem->Prop}(hl:30<=l){L:Nat}{N:List Nd}{td:List (Nat × Nat)}(T:LW ρ μ 40 2 td)(Z:LWb N td)(H:HS μ 0 (Built N))(h16:μ (.h 16)=none)
  (next:∀ ρ μ w S,LW ρ μ 40 2 td->LC1 S N td->HS μ w S->TH μ->Lk ρ "trial" (.ref (.h 16))->XB X l R (cellEnv zbp L zcH) ρ μ (zd3.drop 5) Q) :
  XB X l R (cellEnv zbp L zcH) ρ μ (zd3.drop 3) Q:=by
 obtain⟨l,rfl⟩:∃ m,l=m+30:=⟨l - 30,by exact nqK ‹_›⟩
 have n7:=Z.n7
 have tz:=Z.tz
 have I0:TI (Built N) (mem2 td) 1500 none (Built N):=(Built.ti Z.O (by exact nT ‹_› (by decide))).mono λ a c h=>h.elim
 refine bJ<|XS.for_<|cA<|ak T.told ⟨_,_,_,cY,.ref T.tv,trivial,IvV68b 40 2 td (Built N) (Built N) (mem2 td) 1500 0 td "told" (.ref (.t 1)) μ,λ _ _ _ ⟨_,L,_,_,_,_,_,_⟩=>.ref L.tv,⟨Built N,T,H,I0,Keeps.rfl,by simp,T.told,.rfl⟩,?_,?_⟩
 ·rintro R' i z dm dA hz ⟨S2,T2,H2,I2,K2,all,_,F2⟩
  apply mapE hz;intro q9 hp
  obtain⟨x,y⟩:=q9
  have hi:i < td.length:=(List.getElem?_eq_some_iff.mp hp).1
  have hxy:=Z.ht _ (ap hp)
  have hn:S2.nodes=N:=K2.nodes
  refine Up.e2 dm "a" (VN x) "b" (VN y) λ dX u3 ea u4=>?_
  refine da<|dj rfl<|bI<|ba (.inl rfl) u3<|bI<|ba (.inl rfl) u4<|cX ?_
  have T4:=(T2.up u3).up u4
  have hb:=I2.b1
  have J:=I2.join (r:=["told","t"]) (by exact nqN ‹_› ‹_›) (a:=x) (c:=y) (by rw [hn];exact hxy.1) (by rw [hn];exact hxy.2) (.base (ap hp))
  refine cO<|aW (ak T4.heap<|bc H2.obj (f:=zaH) (by kernel_rfl) (zab (by decide)) ⟨by kernel_rfl,aj<|ak (u4.lk' u3.lk (by decide))<|aj<|ak u4.lk<|aj<|cm<|aj<|dc<|aj<|dc<|aq ⟨szr rfl,aq<|aU<|zcj (l:=l+25) (r:=["told","t"]) H2 I2.wf (by exact nqM ‹_› ‹_› ‹_›) (by rw [hn];exact hxy.1) (by rw [hn];exact hxy.2) λ _ dD H3 F3=>cg ⟨λ _=>⟨_,T4.h F3,H3,J.1,K2.trans J.2.1,λ p hp'=>?_,T4.told,F2.trans F3⟩,λ x e=>dead e⟩⟩⟩) rfl
  rw [aK,hp]at hp'
  rcases List.mem_append.mp hp' with h | h
  ·have hpr:=Z.ht p (List.mem_of_mem_take h)
   exact J.2.1.like _ _ (by rw [hn];exact hpr.1) (by rw [hn];exact hpr.2) (all p h)
  ·have h':p=(x,y):=by simpa using h
   rw [h'];exact J.2.2
 rintro dm dA ⟨S2,T2,H2,I2,K2,all,_,F2⟩
 rw [ah]at I2 all
 rw [aV]at all
 have hn:S2.nodes=N:=K2.nodes
 obtain⟨kr,S3,rr,I3,hw,K3⟩:=I2.run (phi S2) (an _)
 have hn3:S3.nodes=N:=K3.nodes.trans hn
 have C:CI (mem2 td) S3:=CI.of I3 (by lia) hw (K3.mark.trans (K2.mark.trans rfl)) λ a c h=>by
  have:=Z.ht _ h
  exact⟨by rw [hn3];exact this.1,by rw [hn3];exact this.2,K3.like _ _ (by rw [hn];exact this.1) (by rw [hn];exact this.2) (all _ h)⟩
 refine⟨rfl,db (.inl rfl)<|de (f:=.ref zbQ) (cS rfl (by kernel_rfl) ⟨rfl,aj<|ak T2.heap<|aq<|zhU (l:=l+21) H2 ((F2 _ rfl).trans h16) rr λ dD H3 T3 F3=>?_⟩) (by kernel_rfl)⟩
 refine cD dm "trial" (.ref (.h 16)) λ d0 u5=>?_
 refine⟨d0,u5,?_⟩
 have T5:=T2.up u5
 exact next d0 dD 0 S3 ⟨T5.feed,T5.heap,T5.told,T5.B.keep (F3 _ rfl (by decide)),(F3 _ rfl (by decide)).trans T5.tv,λ j h=>(F3 _ rfl (by simp)).trans (T5.fresh j h),T5.k2⟩ ⟨C,hn3⟩ H3 T3 u5.lk
theorem zkt {Q:Fl->Loc->Mem->Prop}(hl:30<=l){L w:Nat}{N:List Nd}{td:List (Nat × Nat)}(T:LW ρ μ 40 2 td)(Z:LWb N td)(A:LC1 S N td)(H:HS μ w S)(th:TH μ)(nt:Lk ρ "trial" (.ref (.h 16)))
  (next:∀ ρ μ w k,LW ρ μ 80 k td->HS μ w S->XB X l R (cellEnv zbp L zcH) ρ μ (zd3.drop 6) Q) :
  XB X l R (cellEnv zbp L zcH) ρ μ (zd3.drop 5) Q:=by
 obtain⟨l,rfl⟩:∃ m,l=m+30:=⟨l - 30,by exact nqK ‹_›⟩
 have tz:=Z.tz
 have hn:=A.n
 refine cZ<|WB.or<|WB.not<|WB.plain<|de (f:=.ref zah) (cS rfl (by kernel_rfl) ⟨rfl,aj<|ak T.feed<|aj<|ak T.heap<|aj<|ak nt<|aj<|ak T.told<|aq<|aU<|zbL (l:=l+16) (k:=2) H th A.C (by rw [hn];exact Z.O) (by rw [hn];exact Z.two) T.B (by decide) T.fresh (.ref (by decide) T.tv) (by exact nT ‹_› (by decide)) (by rw [hn];exact Z.ht) λ w1 k1 dG H1 th1 B1 hk1 f1 F1=>bz ⟨λ _=>?_,λ h=>absurd h (by decide)⟩⟩) (by kernel_rfl)
 have tv1:=(F1 1 (by decide)).trans T.tv
 refine WB.or<|WB.not<|WB.plain<|de (f:=.ref zah) (cS rfl (by kernel_rfl) ⟨rfl,aj<|ak T.feed<|aj<|ak T.heap<|aj<|ak nt<|aj<|ak T.told<|aq<|aU<|zbL (l:=l+16) (k:=k1) H1 th1 A.C (by rw [hn];exact Z.O) (by rw [hn];exact Z.two) B1 (by decide) f1 (.ref (by assumption) tv1) (by exact nT ‹_› (by decide)) (by rw [hn];exact Z.ht) λ w2 k2 dA H2 th2 B2 hk2 f2 F2=>bz ⟨λ _=>?_,λ h=>absurd h (by decide)⟩⟩) (by kernel_rfl)
 exact WB.orNil ⟨λ h=>absurd h (by decide),λ _=>di<|next ρ dA w2 k2 ⟨T.feed,T.heap,T.told,B2,(F2 1 (by assumption)).trans tv1,f2,by exact nT ‹_› ‹_›⟩ H2⟩
theorem zkr (hl:30<=l){L w k:Nat}{N:List Nd}{td:List (Nat × Nat)}(T:LW ρ μ 80 k td)(Z:LWb N td)(A:LC1 S N td)(H:HS μ w S) :
  XB X l R (cellEnv zbp L zcH) ρ μ (zd3.drop 6) (Post λ x _=>x = .bool true):=by
 obtain⟨l,rfl⟩:∃ m,l=m+30:=⟨l - 30,by exact nqK ‹_›⟩
 have tz:=Z.tz
 have n7:=Z.n7
 have hn:=A.n
 have k2:=T.k2
 refine db (.inl rfl)<|de (f:=.ref zar) (cS rfl (by kernel_rfl) ⟨rfl,aj<|ak T.feed<|aj<|ak T.heap<|aj<|cT (n:=2)<|aq<|aU<|zb2 (l:=l+20) (k:=k) (m:=N.length) H (by rw [hn]) T.B (by decide) (by have:=Z.two;exact cK ‹_›) (by exact nT ‹_› (by decide)) (by simp_all) T.fresh λ lt dG hll hlr B1 F1 f1 e1=>?_⟩) (by kernel_rfl)
 refine cD ρ "late" (.ref (.t k)) λ dE u1=>?_
 refine⟨dE,u1,?_⟩
 have tv1:dG (.t 1)=some (.list (td.map pairV)):=(F1 _ (by simp) (λ i hi e=>by cases e;exact Nat.not_le_of_lt ‹_› ‹_›)).trans T.tv
 have T1:LW dE dG 90 (k+1) td:=⟨(T.up u1).feed,(T.up u1).heap,(T.up u1).told,B1.le (by simp_all),tv1,f1,by exact aQ (‹_›)⟩
 have H1:=F1.hs H
 have nl:=u1.lk
 clear u1
 have hap:∀ p∈td ++ lt,p.1 < S.nodes.length/\p.2 < S.nodes.length:=λ p h=>by
  rw [hn]
  exact(List.mem_append.mp h).elim (Z.ht p) (hlr p)
 refine db (.inl rfl)<|de (f:=.ref zaF) (cS rfl (by kernel_rfl) ⟨rfl,aj<|ak T1.heap<|aj<|cF<|ak T1.told<|ak nl<|P2.addL (.ref tv1) (.ref e1) (sz (by rw [ah,ah];lia)) (.inl ?_)⟩) (by kernel_rfl)
 rw [<- ax]
 refine aq<|aU<|zcV (l:=l+24) (k:=k) H1 (by rw [hn];exact Z.O) (by rw [aC];lia) hap .lst λ M hM=>?_
 refine cD dE "due" (.lst (M.map VN)) λ dH u2=>?_
 refine⟨dH,u2,?_⟩
 have T2:=T1.up u2
 have nl:=u2.lk' nl (by decide)
 have nd:=u2.lk
 clear u2
 have I0:TI S (mem2 (td ++ lt)) 3000 none S:=A.C.T.mono λ a c h=>List.mem_append.mpr (.inl h)
 refine bJ<|XS.for_<|cA<|ak nl ⟨_,_,_,cY,.ref e1,trivial,IvV68b 90 (k+1) td S S (mem2 (td ++ lt)) 3000 w lt "due" (.lst (M.map VN)) dG,λ _ _ _ ⟨_,_,_,_,_,_,_,F⟩=>.ref ((F _ rfl).trans e1),⟨S,T2,H1,I0,Keeps.rfl,by simp,nd,.rfl⟩,?_,?_⟩
 ·rintro R' i z dm dA hz ⟨S2,T2,H2,I2,K2,all,nd,F2⟩
  apply mapE hz;intro q9 hp
  obtain⟨x,y⟩:=q9
  have hi:i < lt.length:=(List.getElem?_eq_some_iff.mp hp).1
  have hxy:=hlr _ (ap hp)
  have hn2:S2.nodes=N:=K2.nodes.trans hn
  refine Up.e2 dm "a" (VN x) "b" (VN y) λ dX u3 ea u4=>?_
  refine da<|dj rfl<|bI<|ba (.inl rfl) u3<|bI<|ba (.inl rfl) u4<|cX ?_
  have T4:=(T2.up u3).up u4
  have hb:=I2.b1
  have J:=I2.join (r:=["told","u"]) (by exact nqN ‹_› (aG ‹_›)) (a:=x) (c:=y) (by rw [hn2];exact hxy.1) (by rw [hn2];exact hxy.2) (.base (List.mem_append.mpr (.inr (ap hp))))
  refine cO<|aW (ak T4.heap<|bc H2.obj (f:=zaH) (by kernel_rfl) (zab (by decide)) ⟨by kernel_rfl,aj<|ak (u4.lk' u3.lk (by decide))<|aj<|ak u4.lk<|aj<|cm<|aj<|dc<|aj<|dc<|aq ⟨szr rfl,aq<|aU<|zcj (l:=l+25) (r:=["told","u"]) H2 I2.wf (by exact nqM ‹_› ‹_› (aG ‹_›)) (by rw [hn2];exact hxy.1) (by rw [hn2];exact hxy.2) λ _ dD H3 F3=>cg ⟨λ _=>⟨_,T4.h F3,H3,J.1,K2.trans J.2.1,λ p hp'=>?_,u4.lk' (u3.lk' nd (by decide)) (by decide),F2.trans F3⟩,λ x e=>dead e⟩⟩⟩) rfl
  rw [aK,hp]at hp'
  rcases List.mem_append.mp hp' with h | h
  ·have hpr:=hlr p (List.mem_of_mem_take h)
   exact J.2.1.like _ _ (by rw [hn2];exact hpr.1) (by rw [hn2];exact hpr.2) (all p h)
  ·have h':p=(x,y):=by simpa using h
   rw [h'];exact J.2.2
 rintro dm dA ⟨S2,T2,H2,I2,K2,all,nd,F2⟩
 rw [ah]at I2 all
 rw [aV]at all
 have hn2:S2.nodes=N:=K2.nodes.trans hn
 obtain⟨kr,S3,rr,I3,hw,K3⟩:=I2.run (phi S2) (an _)
 have hn3:S3.nodes=S.nodes:=K3.nodes.trans K2.nodes
 have hn4:S3.nodes=N:=hn3.trans hn
 have like:∀ a c,a < S.nodes.length->c < S.nodes.length->(root S3.ab a=root S3.ab c↔CC S.nodes (λ a c=>(a,c)∈td ++ lt) a c):=λ a c ha hc=>by
  refine⟨λ h=>?_,λ h=>?_⟩
  ·have:=I3.snd a c (by rw [hn3];exact ha) (by rw [hn3];exact hc) h
   rw [hn3]at this;exact this
  ·refine CC.like (f:=root S3.ab) (N:=S.nodes) (λ x y h=>?_) (λ i j d e hi hj=>I3.closed hw i j d e (by rw [hn3];exact hi) (by rw [hn3];exact hj)) h
   have hr:=hap _ h
   refine⟨hr.1,hr.2,K3.like _ _ (by rw [K2.nodes];exact hr.1) (by rw [K2.nodes];exact hr.2) ?_⟩
   rcases List.mem_append.mp h with q | q
   ·exact K2.like _ _ hr.1 hr.2 (A.C.told _ _ q).2.2
   ·exact all _ q
 have hroot:=hM.rootE hap I3.wf.b hn3 like
 refine⟨rfl,cO<|aW (ak T2.heap<|bc H2.obj (f:=zas) (by kernel_rfl) (zab (by decide)) ⟨by kernel_rfl,aq<|aU<|zcl (l:=l+23) H2 rr λ dD H3 F3=>?_⟩) rfl⟩
 refine bZ<|W.and2<|W.cmp<|dg (zac rfl)<|cA<|cB (.type "range") (aj<|W.size (l:=l+28) T2.heap H3 (by rw [hn4];exact nT ‹_› (by decide))<|aq<|dh ⟨_,_,_,IT.rng (by simp_all) (by rw [hn4];exact nqO (nT ‹_› (by decide))),trivial,trivial,[("heap",.ref (.h 0))],IvV68c S3 dD,?_,by simp,λ Y Y Y Y Y=>trivial,(.mk rfl rfl .here),?_,?_⟩)
 ·exact cell1 T2.heap
 ·intro R' C' cl i z ys ec dl hz' hI
  apply hI;intro o
  obtain⟨hi,rfl⟩:=zgZ hz'
  refine cD ec "n" (VN i) λ eP u9=>?_
  refine ba (.inl rfl) u9<|cR ⟨λ Y R9=>W.find (l:=l+28) (u9.lk' o (by decide)) H3 I3.wf.b<|ak u9.lk ⟨i,rfl,rfl,hi,sz (by rw [ah,be,aL,hn4];exact nT (bg _ _) (nT ‹_› (by decide))),.mk rfl (?_) (u9.lk' o (by decide))⟩,λ e=>dead e⟩
  rw [aK,bC hi,ax];rfl
 ·intro ys ec dl hI
  apply hI;intro _
  have e:(rngV 0 (S3.nodes.length:Nat)).length=(List.range S3.nodes.length).length:=by rw [za2];simp
  rw [e,aV]
  have eM:(List.range S3.nodes.length).map (λ n=>VN (root S3.ab n))=M.map VN:=by
   rw [show (λ n=>VN (root S3.ab n))=VN ∘ (root S3.ab)from rfl,<- bv]
   congr 1
   have hl:=hM.lm.len
   refine List.ext_getElem (by rw [ah,aL,hl,hn3]) λ i h1 h2=>?_
   rw [List.getElem_map,List.getElem_range,<- hroot i (by rw [<- hl];exact h2)]
   unfold lb
   rw [aA,al h2];rfl
  rw [eM]
  refine .inl<|ak nd<|P2.eq (zdx (n:=0) M).eq (by decide)<|bz ⟨λ _=>?_,λ h=>absurd h (by decide)⟩
  exact W.cmp<|aW (ak T2.heap<|bc H3.obj (f:=zax) (by kernel_rfl) (zab (by decide)) ⟨by kernel_rfl,aq<|aU<|zel (l:=l+29) H3 (K3.mark.trans (K2.mark.trans A.C.mark))<|cT (n:=0)<|P2.eqN (by rfl)⟩) rfl
theorem zj3 (hl:30<=l){R:Nat->Option Obj}{L:Nat}{ns:List Int}(hn:ns.length<=63) :
  XB X l R (cellEnv zbp L zcH) [("script",.lst (ns.map .int))] (λ _=>none) zd3 (Post λ x _=>x = .bool true) :=
 zkq hl hn λ ρ μ N td T Z H h16=>zkv hl T Z H h16 λ ρ μ w S T A H th nt=>zkt hl T Z A H th nt λ ρ μ w k T H=>zkr hl T Z A H
end
end Internal
theorem PySem.Challenge.cw_pq0081_01_holds : PySem.Challenge.rw_pq0081_01.Holds :=
 Internal.holds01 λ X ns hn R L _ _=>Internal.zj3 (by decide) hn
